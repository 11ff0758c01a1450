import PyProof.Rows.All
import Wide.All
import OpenK.AllK
import Wide.FinOn
import PyProof.P3Statements
import PyProof.EqLayable
import KE.SortKeyed
import HandS.List
import HandS.Text
import HandS.ForMost
import HandS.Wide
import HandS.TupAny
import HandS.Flow
import HandS.Style
import KE.SortData
import HandS.IsInst
import HandS.Property
import HandS.ClsMeth
import HandS.Comp
import HandS.More
import HandS.Exc
import HandS.IterVal
import HandS.Head0
import HandS.Head1
import HandS.Head2
import HandS.HeadEnd
import HandS.HeadHook1
import HandS.HeadHook2
import PyProof.Rows.Walk
import KE.KStateDown
import HandS.Defaults
import PySem.Challenge.RW_nestback_k01_kind_fields
set_option Elab.async false
set_option linter.all false
set_option maxRecDepth 100000
/-! MV: a small functional reading of the programs' text: values as data, own (mutable) lists and objects in slots. -/
namespace MV
open PySem

/-- data: what can not change any more (a frozen list carries the epoch in which it was frozen) -/
inductive D where
  | non
  | bl (b : Bool)
  | int (i : Int)
  | str (x : Str)
  | tup (xs : List D)
  | lst (t : Nat) (xs : List D)
  | obj (c : Nat) (ns : List Nat) (xs : List D)
  | scr (ns : List Int)
instance : Inhabited D := ⟨.non⟩

/-- an object that is owned by one slot (or by nobody yet) -/
inductive Cell where
  | lst (xs : List D)
  | obj (c : Nat) (ns : List Nat) (xs : List D)

/-- a slot's content -/
inductive Sl where
  | d (x : D)
  | own (c : Cell)

/-- an expression's value: data, a new object, the object of a slot -/
inductive W where
  | d (x : D)
  | new (c : Cell)
  | at_ (i : Nat)

structure Env where
  t : Nat
  sl : List (Option Sl)

inductive Res (α : Type) where
  | ok (a : α) (e : Env)
  | exc (x : D) (e : Env)
  | stuck

abbrev M (α : Type) := Env → Res α
@[inline] def ret {α : Type} (a : α) : M α := fun e => .ok a e
@[inline] def bnd {α β : Type} (m : M α) (f : α → M β) : M β := fun e => match m e with
  | .ok a e' => f a e'
  | .exc x e' => .exc x e'
  | .stuck => .stuck
@[inline] def bad {α : Type} : M α := fun _ => .stuck
@[inline] def guard_ (b : Bool) : M Unit := fun e => if b = true then .ok () e else .stuck

def Cell.toD (t : Nat) : Cell → D
  | .lst xs => .lst t xs
  | .obj c ns xs => .obj c ns xs

def Env.get (e : Env) (i : Nat) : Option Sl := (e.sl[i]?).join
def Env.set (e : Env) (i : Nat) (s : Option Sl) : Env := { e with sl := e.sl.set i s }

/-- the content of a value, read only -/
def rd (w : W) : M Sl := fun e => match w with
  | .d x => .ok (.d x) e
  | .new c => .ok (.own c) e
  | .at_ i => match e.get i with
    | some s => .ok s e
    | none => .stuck
/-- the value as data; an owned object is frozen -/
def frz (w : W) : M D := fun e => match w with
  | .d x => .ok x e
  | .new c => .ok (c.toD e.t) e
  | .at_ i => match e.get i with
    | some (.d x) => .ok x e
    | some (.own c) => .ok (c.toD e.t) (e.set i (some (.d (c.toD e.t))))
    | none => .stuck

/-! ### the mini text -/
inductive Bop where | add | sub | mul | fdiv | mod | pow
  deriving DecidableEq
inductive Cop where | eq | ne | lt | le | gt | ge | isin | notin
  deriving DecidableEq
inductive Ty where | int | bool | str | tuple | list | cls (c : Nat) (subs : List Nat)
  deriving DecidableEq
inductive Prim where | len | list | tuple | sorted | int | max | max2
  deriving DecidableEq
inductive E where
  | var (i : Nat)
  | cst (d : D)
  | glob (g : Nat)
  | ccon (c k : Nat)
  | tup (es : List E)
  | lst (es : List E)
  | bin (o : Bop) (a b : E)
  | cmp (o : Cop) (a b : E)
  | chain (o1 o2 : Cop) (a b c : E)
  | isNone (a : E)
  | notNone (a : E)
  | not (a : E)
  | and (a b : E)
  | or (a b : E)
  | ite (c a b : E)
  | idx (a i : E)
  | slc (a : E) (lo hi : Option E)
  | rev (a : E)
  | prim (p : Prim) (a : E)
  | prim2 (p : Prim) (a b : E)
  | join (a b : E)
  | isin (a : E) (ts : List Ty)
  | call (f : Nat) (as : List E)
  | callL (f : Nat) (as : List E)
  | newa (e : E)
  | ref (i : Nat)
  | pop (i : Nat)
  | attr (a : E) (f : Nat)
  | prop (a : E) (m : Nat)
  | comp (x : Nat) (src : E) (cnd : Option E) (elt : E)
  | mk (c : Nat) (as : List E)
  | iter (a : E)
  | rng (a b : E)
inductive S where
  | expr (e : E)
  | asg (i : Nat) (e : E)
  | asgT (is : List Nat) (e : E)
  | aug (i : Nat) (o : Bop) (e : E)
  | append (i : Nat) (e : E)
  | insert (i : Nat) (k e : E)
  | setIx (i : Nat) (k e : E)
  | setFld (i f : Nat) (e : E)
  | augFld (i f : Nat) (o : Bop) (e : E)
  | ret (e : E)
  | ite (c : E) (a b : List S)
  | for_ (tg : List Nat) (isT : Bool) (src : E) (body : List S)
  | while_ (c : E) (body : List S)
  | brk
  | cont
  | pass
  | bad
  | epoch (t : Nat)
  | empt (i : Nat) (t : Nat)

/-! ### data as Python data -/
mutual
def isPy : D → Bool
  | .tup xs => isPyL xs
  | .lst _ xs => isPyL xs
  | .obj _ _ _ => false
  | .scr _ => false
  | _ => true
def isPyL : List D → Bool
  | [] => true
  | x :: xs => isPy x && isPyL xs
end
mutual
def py : D → PyData
  | .non => .none
  | .bl b => .bool b
  | .int i => .int i
  | .str x => .str x
  | .tup xs => .tuple (pyL xs)
  | .lst _ xs => .list (pyL xs)
  | .obj _ _ _ => .none
  | .scr _ => .none
def pyL : List D → List PyData
  | [] => []
  | x :: xs => py x :: pyL xs
end
theorem pyL_eq : ∀ xs : List D, pyL xs = xs.map py
  | [] => rfl
  | x :: xs => by rw [pyL, pyL_eq xs]; rfl
theorem isPyL_eq : ∀ xs : List D, isPyL xs = xs.all isPy
  | [] => rfl
  | x :: xs => by rw [isPyL, isPyL_eq xs]; rfl

def Sl.py : Sl → PyData
  | .d x => MV.py x
  | .own (.lst xs) => .list (pyL xs)
  | .own (.obj _ _ _) => .none
def Sl.isPy : Sl → Bool
  | .d x => MV.isPy x
  | .own (.lst xs) => isPyL xs
  | .own (.obj _ _ _) => false

/-- the items of a list -/
def Sl.lst? : Sl → Option (List D)
  | .d (.lst _ xs) => some xs
  | .own (.lst xs) => some xs
  | _ => none
/-- the items of a list or tuple -/
def Sl.seq? : Sl → Option (List D)
  | .d (.lst _ xs) => some xs
  | .d (.tup xs) => some xs
  | .own (.lst xs) => some xs
  | _ => none

def truth : Sl → Option Bool
  | .d .non => some false
  | .d (.bl b) => some b
  | .d (.int i) => some (i != 0)
  | .d (.str x) => some ((x.length : Int) != 0)
  | .d (.tup xs) => some !xs.isEmpty
  | .d (.lst _ xs) => some !xs.isEmpty
  | .own (.lst xs) => some !xs.isEmpty
  | _ => none

def isNonS : Sl → Bool
  | .d .non => true
  | _ => false
def flatD : D → Bool
  | .non | .bl _ | .int _ | .str _ => true
  | _ => false
/-- x in xs, flat -/
def inD (x : D) (xs : List D) : Bool := xs.any fun y => PyData.eqv (py y) (py x)


def repS (x : Str) (n : Nat) : Str := ⟨(List.replicate n x.cps.toList).flatten.toArray⟩

def binop (o : Bop) (a b : Sl) : Option W :=
  match o, a, b with
  | .add, .d (.int i), .d (.int j) => some (.d (.int (i + j)))
  | .add, .d (.str x), .d (.str y) => if x.length + y.length ≤ 16777216 then some (.d (.str (x ++ y))) else none
  | .add, .d (.tup xs), .d (.tup ys) => if xs.length + ys.length ≤ 16777216 then some (.d (.tup (xs ++ ys))) else none
  | .add, a, b => match a.lst?, b.lst? with
    | some xs, some ys => if xs.length + ys.length ≤ 16777216 then some (.new (.lst (xs ++ ys))) else none
    | _, _ => none
  | .sub, .d (.int i), .d (.int j) => some (.d (.int (i - j)))
  | .mul, .d (.int i), .d (.int j) => if (-18446744073709551616 < i ∧ i < 18446744073709551616) ∨ (-18446744073709551616 < j ∧ j < 18446744073709551616) then some (.d (.int (i * j))) else none
  | .mul, .d (.str x), .d (.int j) => if -4611686018427387904 < j ∧ j < 4611686018427387904 ∧ x.length * j.toNat ≤ 16777216 then some (.d (.str (repS x j.toNat))) else none
  | .fdiv, .d (.int i), .d (.int j) => if 0 < j ∧ j < 18446744073709551616 then some (.d (.int (i / j))) else none
  | .mod, .d (.int i), .d (.int j) => if 0 < j then some (.d (.int (i % j))) else none
  | .pow, .d (.int i), .d (.int j) => if 0 ≤ j ∧ j ≤ 1000000 ∧ -4611686018427387904 < i ∧ i < 4611686018427387904 then some (.d (.int (i ^ j.toNat))) else none
  | _, _, _ => none

def ints2 (a b : Sl) : Option (Int × Int) := match a, b with
  | .d (.int i), .d (.int j) => some (i, j)
  | _, _ => none

/-- comparisons that call nothing -/
def cmpop (o : Cop) (a b : Sl) : Option Bool :=
  match o with
  | .eq => if a.isPy && b.isPy && SeqAt.shaped a.py && SeqAt.shaped b.py then some (PyData.eqv a.py b.py) else none
  | .ne => if a.isPy && b.isPy && SeqAt.shaped a.py && SeqAt.shaped b.py then some (!PyData.eqv a.py b.py) else none
  | .lt => (ints2 a b).map fun p => decide (p.1 < p.2)
  | .le => (ints2 a b).map fun p => decide (p.1 ≤ p.2)
  | .gt => (ints2 a b).map fun p => decide (p.2 < p.1)
  | .ge => (ints2 a b).map fun p => decide (p.2 ≤ p.1)
  | .isin => match a, b with
    | .d (.str x), .d (.str y) => some (!(Builtin.Str.occurrences y x 0 y.length 1).isEmpty)
    | .d x, b => match b.seq? with
      | some ys => if flatD x && ys.all flatD then some (inD x ys) else none
      | none => none
    | _, _ => none
  | .notin => match a, b with
    | .d (.str x), .d (.str y) => some (!(!(Builtin.Str.occurrences y x 0 y.length 1).isEmpty))
    | .d x, b => match b.seq? with
      | some ys => if flatD x && ys.all flatD then some (!inD x ys) else none
      | none => none
    | _, _ => none

/-- places from either end -/
def ix (n : Nat) (i : Int) : Option Nat := if 0 ≤ i then (if i < n then some i.toNat else none) else if -(n : Int) ≤ i then some (i + n).toNat else none
def item (a i : Sl) : Option D := match a, i with
  | .d (.str x), .d (.int i) => ((ix x.cps.toList.length i).bind fun j => x.cps.toList[j]?).map fun c => .str ⟨#[c]⟩
  | a, .d (.int i) => match a.seq? with
    | some xs => (ix xs.length i).bind fun j => xs[j]?
    | none => none
  | _, _ => none
def sIx (n d : Nat) : Option Int → Nat
  | none => d
  | some v => if v < 0 then (v + (n : Int)).toNat else min v.toNat n
def cut {α : Type} (xs : List α) (lo hi : Option Int) : List α := (xs.drop (sIx xs.length 0 lo)).take (sIx xs.length xs.length hi - sIx xs.length 0 lo)
def sliced (a : Sl) (lo hi : Option Int) : Option W := match a with
  | .d (.tup xs) => some (.d (.tup (cut xs lo hi)))
  | .d (.str x) => some (.d (.str ⟨(cut x.cps.toList lo hi).toArray⟩))
  | a => match a.lst? with
    | some xs => some (.new (.lst (cut xs lo hi)))
    | none => none
def reved (a : Sl) : Option W := match a.lst? with
  | some xs => some (.new (.lst xs.reverse))
  | none => none

/-! ### built-ins -/
def alikeAllB : List PyData → Bool
  | ds => ds.all fun d => ds.all fun e => PySem.W.alike d e
def tupleB : PyData → Bool
  | .tuple (_ :: _) => true
  | _ => false
def otherB : PyData → Bool
  | .none => false
  | .tuple _ => false
  | _ => true
def sortable (ds : List PyData) : Bool := alikeAllB ds && (ds.all tupleB || ds.all otherB) && ds.all fun d => decide (d.depth ≤ 64)
def sortD (xs : List D) : List D := xs.mergeSort (PySem.W.dataLe false py)

def strs? : List D → Option (List Str)
  | [] => some []
  | .str x :: r => (strs? r).map (x :: ·)
  | _ => none
def ints? : List D → Option (List Int)
  | [] => some []
  | .int x :: r => (ints? r).map (x :: ·)
  | _ => none
def maxI : List Int → Option Int
  | [] => none
  | x :: xs => some (xs.foldl max x)

def prim1 (p : Prim) (a : Sl) : Option W := match p with
  | .len => match a with
    | .d (.str x) => some (.d (.int x.length))
    | a => a.seq?.map fun xs => .d (.int xs.length)
  | .list => match a with
    | .d (.scr ns) => some (.new (.lst (ns.map .int)))
    | a => a.seq?.map fun xs => .new (.lst xs)
  | .tuple => a.seq?.map fun xs => .d (.tup xs)
  | .int => match a with
    | .d (.int i) => some (.d (.int i))
    | .d (.bl b) => some (.d (.int (if b then 1 else 0)))
    | _ => none
  | .sorted => match a.lst? with
    | some xs => if xs.all isPy && sortable (xs.map py) then some (.new (.lst (sortD xs))) else none
    | none => none
  | .max => match a.lst? with
    | some xs => match ints? xs with
      | some ns => (maxI ns).map fun m => .d (.int m)
      | none => none
    | none => none
  | _ => none
def primb (p : Prim) (a b : Sl) : Option W := match p with
  | .max2 => (ints2 a b).map fun q => .d (.int (if q.2 > q.1 then q.2 else q.1))
  | _ => none
def joined (s : Str) (b : Sl) : Option W := match b.seq? with
  | some xs => match strs? xs with
    | some ys => if (ys.map (·.length)).sum + ys.length * s.length ≤ 16777216 then some (.d (.str (Txt.join s ys))) else none
    | none => none
  | none => none

def isTy (a : Sl) : Ty → Bool
  | .int => match a with | .d (.int _) => true | .d (.bl _) => true | _ => false
  | .bool => match a with | .d (.bl _) => true | _ => false
  | .str => match a with | .d (.str _) => true | _ => false
  | .tuple => match a with | .d (.tup _) => true | _ => false
  | .list => match a with | .d (.lst _ _) => true | .own (.lst _) => true | _ => false
  | .cls _ subs => match a with | .d (.obj c' _ _) => subs.contains c' | .own (.obj c' _ _) => subs.contains c' | _ => false
def tyOk : Sl → Bool
  | .d (.scr _) => false
  | _ => true

/-! ### what the mini text does -/
structure Info where
  glob : Nat → Option D
  ccon : Nat → Nat → Option D
  meth : Nat → Nat → Option Nat
  init : Nat → Option Nat
  eqm : Nat → Option Nat
  lenm : Nat → Option Nat
  iterm : Nat → Option Nat

/-- what a call gives: the value, what has become of the parameters that were handed in as own objects -/
inductive CallRes where
  | ok (w : Sl) (fin : List (Option Sl))
  | exc (x : D)
  | stuck
abbrev Phi := Nat → Nat → List Sl → CallRes

/-- an argument: data, or the own object of a slot -/
inductive AV where
  | d (x : D)
  | r (i : Nat)

def optM {α : Type} : Option α → M α
  | some a => ret a
  | none => bad
def tr (w : W) : M Bool := bnd (rd w) fun s => optM (truth s)
def slW : Sl → W
  | .d x => .d x
  | .own c => .new c
def argSl (e : Env) : List AV → Option (List Sl)
  | [] => some []
  | .d x :: r => (argSl e r).map (.d x :: ·)
  | .r i :: r => match e.get i with
    | some (.own c) => (argSl e r).map (.own c :: ·)
    | _ => none
/-- behind a call: the slots whose objects were handed in -/
def setFin (e : Env) : List AV → List (Option Sl) → Env
  | .r i :: as, f :: fs => setFin (e.set i f) as fs
  | .d _ :: as, _ :: fs => setFin e as fs
  | _, _ => e
def refsOf : List AV → List Nat
  | [] => []
  | .r i :: r => i :: refsOf r
  | .d _ :: r => refsOf r
def killAll (e : Env) : List Nat → Env
  | [] => e
  | i :: r => killAll (e.set i none) r
def callM (P : Phi) (f : Nat) (as : List AV) : M W := fun e =>
  if (refsOf as).Nodup then
    match argSl e as with
    | none => .stuck
    | some sls => match P e.t f sls with
      | .ok w fin => if fin.length = as.length then .ok (slW w) (setFin e as fin) else .stuck
      | .exc x => .exc x (killAll e (refsOf as))
      | .stuck => .stuck
  else .stuck

/-- a call whose last argument is a new object, handed in -/
def callLM (P : Phi) (f : Nat) (as : List AV) (c : Cell) : M W := fun e =>
  if (refsOf as).Nodup then
    match argSl e as with
    | none => .stuck
    | some sls => match P e.t f (sls ++ [.own c]) with
      | .ok w fin => if fin.length = as.length + 1 then .ok (slW w) (setFin e as fin) else .stuck
      | .exc x => .exc x (killAll e (refsOf as))
      | .stuck => .stuck
  else .stuck
def madeOf : Sl → List (Option Sl) → Option (Nat × List Nat × List D × List (Option Sl))
  | .d .non, some (.own (.obj c ns xs)) :: fin => some (c, ns, xs, fin)
  | _, _ => none
theorem madeOf_eq {w : Sl} {fin0 : List (Option Sl)} {c : Nat} {ns : List Nat} {xs : List D} {fin : List (Option Sl)} (h : madeOf w fin0 = some (c, ns, xs, fin)) : w = .d .non ∧ fin0 = some (.own (.obj c ns xs)) :: fin := by
  unfold madeOf at h
  split at h
  · cases h; exact ⟨rfl, rfl⟩
  · cases h
/-- a new object of the class c, by its __init__ f -/
def makeM (P : Phi) (c f : Nat) (avs : List AV) : M W := fun e =>
  if (refsOf avs).Nodup then
    match argSl e avs with
    | none => .stuck
    | some sls => match P e.t f (.own (.obj c [] []) :: sls) with
      | .ok w fin0 => match madeOf w fin0 with
        | some (c', ns, xs, fin) => if fin.length = avs.length then .ok (.new (.obj c' ns xs)) (setFin e avs fin) else .stuck
        | none => .stuck
      | .exc x => .exc x (killAll e (refsOf avs))
      | .stuck => .stuck
  else .stuck
/-- what a for walks -/
def itemsOf : D → Option (List D)
  | .lst _ xs => some xs
  | .tup xs => some xs
  | .str x => some (x.cps.toList.map fun c => .str ⟨#[c]⟩)
  | _ => none
def setSl (i : Nat) (s : Option Sl) : M Unit := fun e => .ok () (e.set i s)
/-- without an exception -/
def noX {α : Type} (m : M α) : M α := fun e => match m e with
  | .ok a e' => .ok a e'
  | _ => .stuck
def compLoop (x : Nat) (body : M (Option D)) : List D → List D → M (List D)
  | [], acc => ret acc
  | y :: ys, acc => bnd (setSl x (some (.d y))) fun _ => bnd (noX body) fun r => bnd (setSl x none) fun _ =>
    match r with
    | some z => if acc.length < 16777216 then compLoop x body ys (acc ++ [z]) else bad
    | none => compLoop x body ys acc
def eltM (m : M W) : M (Option D) := bnd m fun z => bnd (frz z) fun z => ret (some z)
def eltCM (c m : M W) : M (Option D) := bnd c fun k => bnd (tr k) fun k => if k = true then eltM m else ret none
def compM (x : Nat) (m0 : M (List D)) (body : M (Option D)) : M W := bnd m0 fun xs => bnd (setSl x none) fun _ => bnd (compLoop x body xs []) fun ys => bnd (setSl x none) fun _ => ret (.new (.lst ys))

def fldAt (f : Nat) : List Nat → List D → Option D
  | n :: ns, x :: xs => if n = f then some x else fldAt f ns xs
  | _, _ => none
def objOf : Sl → Option (Nat × List Nat × List D)
  | .d (.obj c ns xs) => some (c, ns, xs)
  | .own (.obj c ns xs) => some (c, ns, xs)
  | _ => none
def intOf : Sl → Option Int
  | .d (.int i) => some i
  | _ => none

/-- an own method's answer, a truth value -/
def ansB (w : W) : M W := match w with
  | .d (.bl k) => ret (.d (.bl k))
  | _ => bad
def ansN (w : W) : M W := match w with
  | .d (.int n) => if 0 ≤ n ∧ n < 4611686018427387904 then ret (.d (.int n)) else bad
  | _ => bad
/-- == and the like, where an own class may be asked -/
def cmpM (I : Info) (P : Phi) (o : Cop) (x y : W) : M W := bnd (rd x) fun s => bnd (rd y) fun t =>
  match o, objOf s, objOf t with
  | .eq, some (c, _, _), some (c', _, _) => if c = c' then bnd (frz x) fun a => bnd (frz y) fun b => bnd (optM (I.eqm c)) fun f => bnd (callM P f [.d a, .d b]) ansB else bad
  | _, _, _ => bnd (optM (cmpop o s t)) fun b => ret (.d (.bl b))
def lenM (I : Info) (P : Phi) (x : W) : M W := bnd (rd x) fun s => match objOf s with
  | some (c, _, _) => bnd (frz x) fun a => bnd (optM (I.lenm c)) fun f => bnd (callM P f [.d a]) ansN
  | none => optM (prim1 .len s)

def primM (I : Info) (P : Phi) (p : Prim) (x : W) : M W := match p with
  | .len => lenM I P x
  | p => bnd (rd x) fun s => optM (prim1 p s)
/-- what a for or a comprehension walks; an own __iter__ gives a tuple's iterator: the tuple's items -/
def itemsM (I : Info) (P : Phi) (d : D) : M (List D) := match d with
  | .obj c _ _ => bnd (optM (I.iterm c)) fun f => bnd (callM P f [.d d]) fun w => match w with
    | .d (.tup xs) => ret xs
    | _ => bad
  | d => optM (itemsOf d)

mutual
def ev (I : Info) (P : Phi) : E → M W
  | .var i => fun e => match e.get i with
    | some (.d x) => .ok (.d x) e
    | some (.own _) => .ok (.at_ i) e
    | none => .stuck
  | .cst d => ret (.d d)
  | .glob g => bnd (optM (I.glob g)) fun d => ret (.d d)
  | .ccon c k => bnd (optM (I.ccon c k)) fun d => ret (.d d)
  | .tup es => bnd (evs I P es) fun xs => ret (.d (.tup xs))
  | .lst es => bnd (evs I P es) fun xs => ret (.new (.lst xs))
  | .bin o a b => bnd (ev I P a) fun x => bnd (ev I P b) fun y => bnd (rd x) fun s => bnd (rd y) fun t => optM (binop o s t)
  | .cmp o a b => bnd (ev I P a) fun x => bnd (ev I P b) fun y => cmpM I P o x y
  | .chain o1 o2 a b c => bnd (ev I P a) fun x => bnd (ev I P b) fun y => bnd (rd x) fun s => bnd (rd y) fun t =>
      bnd (optM (cmpop o1 s t)) fun k => if k = true then bnd (ev I P c) fun z => bnd (rd y) fun t => bnd (rd z) fun u => bnd (optM (cmpop o2 t u)) fun k2 => ret (.d (.bl k2)) else ret (.d (.bl false))
  | .isNone a => bnd (ev I P a) fun x => bnd (rd x) fun s => ret (.d (.bl (isNonS s)))
  | .notNone a => bnd (ev I P a) fun x => bnd (rd x) fun s => ret (.d (.bl (!isNonS s)))
  | .not a => bnd (ev I P a) fun x => bnd (tr x) fun b => ret (.d (.bl (!b)))
  | .and a b => bnd (ev I P a) fun x => bnd (tr x) fun k => if k = true then ev I P b else ret x
  | .or a b => bnd (ev I P a) fun x => bnd (tr x) fun k => if k = true then ret x else ev I P b
  | .ite c a b => bnd (ev I P c) fun x => bnd (tr x) fun k => if k = true then ev I P a else ev I P b
  | .idx a i => bnd (ev I P a) fun x => bnd (ev I P i) fun y => bnd (rd x) fun s => bnd (rd y) fun t => bnd (optM (item s t)) fun d => ret (.d d)
  | .slc a lo hi => bnd (ev I P a) fun x => bnd (evO I P lo) fun l => bnd (evO I P hi) fun h => bnd (rd x) fun s => optM (sliced s l h)
  | .rev a => bnd (ev I P a) fun x => bnd (rd x) fun s => optM (reved s)
  | .prim p a => bnd (ev I P a) (primM I P p)
  | .prim2 p a b => bnd (ev I P a) fun x => bnd (ev I P b) fun y => bnd (rd x) fun s => bnd (rd y) fun t => optM (primb p s t)
  | .join a b => bnd (ev I P a) fun x => match x with
    | .d (.str s) => bnd (ev I P b) fun y => bnd (rd y) fun t => optM (joined s t)
    | _ => bad
  | .isin a ts => bnd (ev I P a) fun x => bnd (rd x) fun s => if tyOk s = true then ret (.d (.bl (ts.any (isTy s)))) else bad
  | .call f as => bnd (evA I P as) fun avs => callM P f avs
  | .callL f as => bnd (evL I P as) fun q => callLM P f q.1 q.2
  | .newa _ => bad
  | .ref _ => bad
  | .pop i => fun e => match e.get i with
    | some (.own (.lst xs)) => match xs.getLast? with
      | some x => .ok (.d x) (e.set i (some (.own (.lst xs.dropLast))))
      | none => .stuck
    | _ => .stuck
  | .attr a f => bnd (ev I P a) fun x => bnd (rd x) fun s => match objOf s with
    | some (_, ns, xs) => bnd (optM (fldAt f ns xs)) fun d => ret (.d d)
    | none => bad
  | .prop a m => bnd (ev I P a) fun x => bnd (rd x) fun s => match objOf s with
    | some (c, _, _) => bnd (frz x) fun a => bnd (optM (I.meth c m)) fun f => callM P f [.d a]
    | none => bad
  | .comp x src cnd elt => compM x (bnd (ev I P src) fun w => bnd (frz w) fun d => itemsM I P d) (match cnd with
        | none => eltM (ev I P elt)
        | some c => eltCM (ev I P c) (ev I P elt))
  | .mk c as => bnd (evA I P as) fun avs => bnd (optM (I.init c)) fun f => makeM P c f avs
  | .iter _ => bad
  | .rng a b => bnd (ev I P a) fun x => bnd (ev I P b) fun y => bnd (rd x) fun s => bnd (rd y) fun t =>
      bnd (optM (ints2 s t)) fun q => if -4611686018427387904 ≤ q.1 ∧ q.1 < 4611686018427387904 ∧ -4611686018427387904 ≤ q.2 ∧ q.2 < 4611686018427387904 then ret (.d (.tup ((List.range (q.2 - q.1).toNat).map fun (k : Nat) => D.int (q.1 + (k : Int))))) else bad
def evs (I : Info) (P : Phi) : List E → M (List D)
  | [] => ret []
  | e :: es => bnd (ev I P e) fun x => bnd (frz x) fun x => bnd (evs I P es) fun xs => ret (x :: xs)
def evA (I : Info) (P : Phi) : List E → M (List AV)
  | [] => ret []
  | .ref i :: es => fun e => match e.get i with
    | some (.own _) => (bnd (evA I P es) fun xs => ret (.r i :: xs)) e
    | _ => .stuck
  | e :: es => bnd (ev I P e) fun x => bnd (frz x) fun x => bnd (evA I P es) fun xs => ret (.d x :: xs)
/-- arguments, the last one a new object that is handed in -/
def evL (I : Info) (P : Phi) : List E → M (List AV × Cell)
  | [] => bad
  | .newa e :: _ => bnd (ev I P e) fun w => match w with
    | .new c => ret ([], c)
    | _ => bad
  | .ref i :: es => fun e => match e.get i with
    | some (.own _) => (bnd (evL I P es) fun q => ret (.r i :: q.1, q.2)) e
    | _ => .stuck
  | e :: es => bnd (ev I P e) fun x => bnd (frz x) fun x => bnd (evL I P es) fun q => ret (.d x :: q.1, q.2)
def evO (I : Info) (P : Phi) : Option E → M (Option Int)
  | none => ret none
  | some e => bnd (ev I P e) fun x => bnd (rd x) fun s => bnd (optM (intOf s)) fun i => ret (some i)
end

inductive Fl where
  | next
  | brk
  | cont
  | ret (s : Sl)

def isOwn (e : Env) (j : Nat) : Bool := match e.get j with
  | some (.own _) => true
  | _ => false
/-- a returned value: the object of a slot that is not handed in goes out as it is -/
def out (br : List Nat) (w : W) : M Sl := fun e => match w with
  | .d x => .ok (.d x) e
  | .new c => .ok (.own c) e
  | .at_ i => if i ∈ br then bnd (frz w) (fun x => ret (.d x)) e else match e.get i with
    | some (.own c) => if br.all (isOwn e) = true then .ok (.own c) (e.set i none) else .stuck
    | _ => .stuck
/-- stored into a slot -/
def sto (w : W) : M Sl := fun e => match w with
  | .d x => .ok (.d x) e
  | .new c => .ok (.own c) e
  | .at_ _ => bnd (frz w) (fun x => ret (.d x)) e
def setAll : List Nat → List D → M Unit
  | [], [] => ret ()
  | i :: is, x :: xs => bnd (setSl i (some (.d x))) fun _ => setAll is xs
  | _, _ => bad
def bindT (tg : List Nat) (isT : Bool) (x : D) : M Unit :=
  if isT = true then match x with
    | .tup xs => setAll tg xs
    | _ => bad
  else match tg with
    | [i] => setSl i (some (.d x))
    | _ => bad
def forL (bd : D → M Unit) (body : M Fl) : List D → M Fl
  | [] => ret .next
  | x :: xs => bnd (bd x) fun _ => bnd body fun
    | .next => forL bd body xs
    | .cont => forL bd body xs
    | .brk => ret .next
    | .ret s => ret (.ret s)
def whileL (c : M Bool) (body : M Fl) : Nat → M Fl
  | 0 => bad
  | n + 1 => bnd c fun k => if k = true then bnd body fun
    | .next => whileL c body n
    | .cont => whileL c body n
    | .brk => ret .next
    | .ret s => ret (.ret s)
    else ret .next
def ownLst (i : Nat) : M (List D) := fun e => match e.get i with
  | some (.own (.lst xs)) => .ok xs e
  | _ => .stuck
def putF (f : Nat) (y : D) : List Nat → List D → List Nat × List D
  | n :: ns, x :: xs => if n = f then (n :: ns, y :: xs) else let r := putF f y ns xs; (n :: r.1, x :: r.2)
  | _, _ => ([f], [y])

mutual
/-- no list of epoch t or later -/
def older (t : Nat) : D → Bool
  | .tup xs => olderL t xs
  | .lst u xs => decide (u < t) && olderL t xs
  | .obj _ _ xs => olderL t xs
  | _ => true
def olderL (t : Nat) : List D → Bool
  | [] => true
  | x :: xs => older t x && olderL t xs
end
mutual
/-- every list is of epoch t -/
def allAt (t : Nat) : D → Bool
  | .tup xs => allAtL t xs
  | .lst u xs => decide (u = t) && allAtL t xs
  | .obj _ _ _ => false
  | .scr _ => false
  | _ => true
def allAtL (t : Nat) : List D → Bool
  | [] => true
  | x :: xs => allAt t x && allAtL t xs
end
mutual
def depthD : D → Nat
  | .tup xs => depthL xs + 1
  | .lst _ xs => depthL xs + 1
  | _ => 0
def depthL : List D → Nat
  | [] => 0
  | x :: xs => max (depthD x) (depthL xs)
end
mutual
/-- without the law's script -/
def noScr : D → Bool
  | .tup xs => noScrL xs
  | .lst _ xs => noScrL xs
  | .obj _ _ xs => noScrL xs
  | .scr _ => false
  | _ => true
def noScrL : List D → Bool
  | [] => true
  | x :: xs => noScr x && noScrL xs
end
def isSeq : D → Bool
  | .lst _ _ => true
  | .tup _ => true
  | _ => false
def Sl.noScr : Sl → Bool
  | .d x => MV.noScr x
  | .own (.lst xs) => noScrL xs
  | .own (.obj _ _ xs) => noScrL xs
def Sl.older (t : Nat) : Sl → Bool
  | .d x => MV.older t x
  | .own (.lst xs) => MV.olderL t xs
  | .own (.obj _ _ xs) => MV.olderL t xs
/-- the slots that hold no list of epoch t or later -/
def keepOlder (t : Nat) (sl : List (Option Sl)) : List (Option Sl) := sl.map fun
  | some s => if (s.older t && s.noScr) = true then some s else none
  | none => none

section
variable (I : Info) (P : Phi) (br : List Nat) (fuel : Nat)
mutual
def exec : S → M Fl
  | .expr e => bnd (ev I P e) fun _ => ret .next
  | .asg i e => bnd (ev I P e) fun w => bnd (sto w) fun s => bnd (setSl i (some s)) fun _ => ret .next
  | .asgT is e => bnd (ev I P e) fun w => bnd (frz w) fun x => bnd (bindT is true x) fun _ => ret .next
  | .aug i o e => bnd (ev I P (.var i)) fun x => bnd (ev I P e) fun y => bnd (rd x) fun s => bnd (rd y) fun t => bnd (optM (match s, t with
      | .d (.int _), .d (.int _) => binop o s t
      | .d (.str _), .d (.str _) => binop o s t
      | _, _ => none)) fun w => bnd (sto w) fun s => bnd (setSl i (some s)) fun _ => ret .next
  | .append i e => bnd (ownLst i) fun _ => bnd (ev I P e) fun w => bnd (frz w) fun x => bnd (ownLst i) fun xs => if xs.length < 16777216 then bnd (setSl i (some (.own (.lst (xs ++ [x]))))) fun _ => ret .next else bad
  | .insert i k e => bnd (ownLst i) fun _ => bnd (ev I P k) fun kw => bnd (rd kw) fun ks => bnd (optM (intOf ks)) fun k => bnd (ev I P e) fun w => bnd (frz w) fun x => bnd (ownLst i) fun xs =>
      if xs.length < 16777216 ∧ 0 ≤ k ∧ k < 4611686018427387904 then bnd (setSl i (some (.own (.lst (xs.take k.toNat ++ [x] ++ xs.drop k.toNat))))) fun _ => ret .next else bad
  | .setIx i k e => bnd (ev I P e) fun w => bnd (frz w) fun x => bnd (ownLst i) fun _ => bnd (ev I P k) fun kw => bnd (rd kw) fun ks => bnd (optM (intOf ks)) fun k => bnd (ownLst i) fun xs =>
      bnd (optM (ix xs.length k)) fun j => bnd (setSl i (some (.own (.lst (xs.set j x))))) fun _ => ret .next
  | .setFld i f e => bnd (ev I P e) fun w => bnd (frz w) fun x => fun en => match en.get i with
      | some (.own (.obj c ns xs)) => if ns.length < 1000 then .ok .next (en.set i (some (.own (.obj c (putF f x ns xs).1 (putF f x ns xs).2)))) else .stuck
      | _ => .stuck
  | .augFld i f o e => fun en => match en.get i with
      | some (.own (.obj _ ns xs)) => match fldAt f ns xs with
        | some y => (bnd (ev I P e) fun w => bnd (rd w) fun t => bnd (optM (match y, t with | .int i, .d (.int j) => (match o with | .add => some (D.int (i + j)) | .sub => some (D.int (i - j)) | _ => none) | _, _ => none)) fun z => fun en => match en.get i with
          | some (.own (.obj c ns xs)) => if ns.length < 1000 then .ok .next (en.set i (some (.own (.obj c (putF f z ns xs).1 (putF f z ns xs).2)))) else .stuck
          | _ => .stuck) en
        | none => .stuck
      | _ => .stuck
  | .ret e => bnd (ev I P e) fun w => bnd (out br w) fun s => ret (.ret s)
  | .ite c a b => bnd (ev I P c) fun x => bnd (tr x) fun k => if k = true then execs a else execs b
  | .for_ tg isT src body => bnd (bnd (ev I P src) fun w => bnd (frz w) fun d => itemsM I P d) fun xs => forL (bindT tg isT) (execs body) xs
  | .while_ c body => whileL (bnd (ev I P c) tr) (execs body) fuel
  | .brk => ret .brk
  | .cont => ret .cont
  | .pass => ret .next
  | .bad => bad
  | .epoch t => fun e => if e.t ≤ t then .ok .next { e with t := t } else .stuck
  | .empt i t => fun e => match e.get i with
      | some (.d x) => if allAt t x = true ∧ isSeq x = true ∧ depthD x ≤ 12 ∧ 1 ≤ t then .ok .next { e with sl := keepOlder t (e.sl.set i none) } else .stuck
      | _ => .stuck
def execs : List S → M Fl
  | [] => ret .next
  | s :: ss => bnd (exec s) fun
    | .next => execs ss
    | f => ret f
end
end

structure FnI where
  nl : Nat
  np : Nat
  br : List Nat
  body : List S
/-- own objects stand only where they are handed in -/
def okArgs (br : List Nat) : Nat → List Sl → Bool
  | _, [] => true
  | i, .d _ :: r => okArgs br (i + 1) r
  | i, .own _ :: r => br.contains i && okArgs br (i + 1) r
def callF (I : Info) (fns : Nat → Option FnI) (fuel : Nat) : Nat → Phi
  | 0, _, _, _ => .stuck
  | n + 1, t, f, args => match fns f with
    | none => .stuck
    | some d => if args.length = d.np ∧ okArgs d.br 0 args = true then
        match execs I (callF I fns fuel n) d.br fuel d.body ⟨t, args.map some ++ List.replicate (d.nl - d.np) none⟩ with
        | .ok (.ret s) e => .ok s ((List.range d.np).map fun i => if i ∈ d.br then e.get i else none)
        | .ok .next e => .ok (.d .non) ((List.range d.np).map fun i => if i ∈ d.br then e.get i else none)
        | .exc x _ => .exc x
        | _ => .stuck
      else .stuck

end MV
/-! MVRel: how the mini text's data lie in the abstract heap; what an expression's evaluation leaves. -/
namespace MV
open PySem PySem.Spec L2

structure Gx where
  K : PySem.W.Frag
  ca : Nat → Addr
  ck : Nat → Prop
  fname : Nat → Str

/-- the frozen part: objects that nothing changes any more, each list with the epoch in which it was frozen -/
structure Fz where
  h : Hp
  ep : Addr → Nat

mutual
def Is (G : Gx) (F : Fz) : D → V → Prop
  | .non, v => v = .non
  | .bl b, v => v = .bl b
  | .int i, v => v = .int i
  | .str x, v => v = .str x ∧ x.length ≤ 16777216
  | .tup xs, v => ∃ a vs, v = .ref a ∧ SqT G.K F.h a vs ∧ IsL G F xs vs
  | .lst t xs, v => ∃ a vs, v = .ref a ∧ F.h a = some (.lst vs) ∧ F.ep a = t ∧ IsL G F xs vs
  | .obj c ns xs, v => ∃ a dx vs, v = .ref a ∧ F.h a = some (.ins (G.ca c) dx ((ns.map G.fname).zip vs)) ∧ (ns.length = xs.length ∧ G.ck c) ∧ IsL G F xs vs
  | .scr ns, v => ∃ a, v = .ref a ∧ SqL G.K F.h a (ns.map V.int)
def IsL (G : Gx) (F : Fz) : List D → List V → Prop
  | [], vs => vs = []
  | x :: xs, vs => ∃ v r, vs = v :: r ∧ Is G F x v ∧ IsL G F xs r
end

section
variable {G : Gx} {F F' : Fz}
theorem IsL.length : ∀ {xs : List D} {vs : List V}, IsL G F xs vs → vs.length = xs.length
  | [], vs, h => by rw [IsL] at h; rw [h]; rfl
  | x :: xs, vs, h => by
    rw [IsL] at h
    obtain ⟨v, r, rfl, _, h2⟩ := h
    simp [IsL.length h2]
theorem IsL.nil : IsL G F [] [] := by rw [IsL]
theorem IsL.cons {x : D} {v : V} {xs : List D} {vs : List V} (h : Is G F x v) (t : IsL G F xs vs) : IsL G F (x :: xs) (v :: vs) := by
  rw [IsL]; exact ⟨v, vs, rfl, h, t⟩
theorem IsL.app : ∀ {xs ys : List D} {vs ws : List V}, IsL G F xs vs → IsL G F ys ws → IsL G F (xs ++ ys) (vs ++ ws)
  | [], ys, vs, ws, h, h2 => by rw [IsL] at h; subst h; exact h2
  | x :: xs, ys, vs, ws, h, h2 => by
    rw [IsL] at h
    obtain ⟨v, r, rfl, h1, h3⟩ := h
    exact IsL.cons h1 (IsL.app h3 h2)
theorem IsL.get : ∀ {xs : List D} {vs : List V} {i : Nat} {x : D}, IsL G F xs vs → xs[i]? = some x → ∃ v, vs[i]? = some v ∧ Is G F x v
  | [], _, _, _, _, e => by simp at e
  | x :: xs, vs, 0, y, h, e => by
    rw [IsL] at h
    obtain ⟨v, r, rfl, h1, _⟩ := h
    simp at e; subst e
    exact ⟨v, rfl, h1⟩
  | x :: xs, vs, i + 1, y, h, e => by
    rw [IsL] at h
    obtain ⟨v, r, rfl, _, h2⟩ := h
    exact IsL.get (i := i) h2 (by simpa using e)
theorem IsL.getV : ∀ {xs : List D} {vs : List V} {i : Nat} {v : V}, IsL G F xs vs → vs[i]? = some v → ∃ x, xs[i]? = some x ∧ Is G F x v
  | [], vs, _, _, h, e => by rw [IsL] at h; subst h; simp at e
  | x :: xs, vs, 0, w, h, e => by
    rw [IsL] at h
    obtain ⟨v, r, rfl, h1, _⟩ := h
    simp at e; subst e
    exact ⟨x, rfl, h1⟩
  | x :: xs, vs, i + 1, w, h, e => by
    rw [IsL] at h
    obtain ⟨v, r, rfl, _, h2⟩ := h
    exact IsL.getV (i := i) h2 (by simpa using e)
theorem IsL.drop : ∀ {xs : List D} {vs : List V} (n : Nat), IsL G F xs vs → IsL G F (xs.drop n) (vs.drop n)
  | _, _, 0, h => h
  | [], vs, n + 1, h => by rw [IsL] at h; subst h; exact IsL.nil
  | x :: xs, vs, n + 1, h => by
    rw [IsL] at h
    obtain ⟨v, r, rfl, _, h2⟩ := h
    exact IsL.drop n h2
theorem IsL.take : ∀ {xs : List D} {vs : List V} (n : Nat), IsL G F xs vs → IsL G F (xs.take n) (vs.take n)
  | _, _, 0, h => IsL.nil
  | [], vs, n + 1, h => by rw [IsL] at h; subst h; exact IsL.nil
  | x :: xs, vs, n + 1, h => by
    rw [IsL] at h
    obtain ⟨v, r, rfl, h1, h2⟩ := h
    exact IsL.cons h1 (IsL.take n h2)
theorem IsL.set : ∀ {xs : List D} {vs : List V} (n : Nat) {x : D} {v : V}, Is G F x v → IsL G F xs vs → IsL G F (xs.set n x) (vs.set n v)
  | [], vs, n, _, _, _, h => by rw [IsL] at h; subst h; exact IsL.nil
  | y :: xs, vs, 0, _, _, hx, h => by
    rw [IsL] at h
    obtain ⟨v, r, rfl, h1, h2⟩ := h
    exact IsL.cons hx h2
  | y :: xs, vs, n + 1, _, _, hx, h => by
    rw [IsL] at h
    obtain ⟨v, r, rfl, h1, h2⟩ := h
    exact IsL.cons h1 (IsL.set n hx h2)
theorem IsL.reverse : ∀ {xs : List D} {vs : List V}, IsL G F xs vs → IsL G F xs.reverse vs.reverse
  | [], vs, h => by rw [IsL] at h; subst h; exact IsL.nil
  | x :: xs, vs, h => by
    rw [IsL] at h
    obtain ⟨v, r, rfl, h1, h2⟩ := h
    rw [List.reverse_cons, List.reverse_cons]
    exact (IsL.reverse h2).app (IsL.cons h1 IsL.nil)
theorem IsL.dropLast {xs : List D} {vs : List V} (h : IsL G F xs vs) : IsL G F xs.dropLast vs.dropLast := by
  rw [List.dropLast_eq_take, List.dropLast_eq_take, h.length]
  exact h.take _

/-- the frozen part has grown -/
structure Fle (F F' : Fz) : Prop where
  h : ∀ a o, F.h a = some o → F'.h a = some o
  ep : ∀ a o, F.h a = some o → F'.ep a = F.ep a
theorem Fle.refl (F : Fz) : Fle F F := ⟨fun _ _ h => h, fun _ _ _ => rfl⟩
theorem Fle.trans {A B C : Fz} (x : Fle A B) (y : Fle B C) : Fle A C := ⟨fun a o h => y.h a o (x.h a o h), fun a o h => (y.ep a o (x.h a o h)).trans (x.ep a o h)⟩
theorem SqT.le {K : PySem.W.Frag} {H H' : Hp} {a : Addr} {xs : List V} (e : ∀ a o, H a = some o → H' a = some o) (h : SqT K H a xs) : SqT K H' a xs := by
  rcases h with (h | ⟨o, h⟩) | h
  · exact .inl (.inl (e _ _ h))
  · exact .inl (.inr ⟨o, e _ _ h⟩)
  · exact .inr h
theorem SqL.le {K : PySem.W.Frag} {H H' : Hp} {a : Addr} {xs : List V} (e : ∀ a o, H a = some o → H' a = some o) (h : SqL K H a xs) : SqL K H' a xs := by
  rcases h with (h | ⟨o, h⟩) | h
  · exact .inl (.inl (e _ _ h))
  · exact .inl (.inr ⟨o, e _ _ h⟩)
  · exact .inr h
mutual
theorem Is.mono (m : Fle F F') : ∀ {d : D} {v : V}, Is G F d v → Is G F' d v
  | .non, v, h => by rw [Is] at h ⊢; exact h
  | .bl b, v, h => by rw [Is] at h ⊢; exact h
  | .int i, v, h => by rw [Is] at h ⊢; exact h
  | .str x, v, h => by rw [Is] at h ⊢; exact h
  | .tup xs, v, h => by
    rw [Is] at h ⊢
    obtain ⟨a, vs, e, h1, h2⟩ := h
    exact ⟨a, vs, e, SqT.le m.h h1, IsL.mono m h2⟩
  | .lst t xs, v, h => by
    rw [Is] at h ⊢
    obtain ⟨a, vs, e, h1, h3, h2⟩ := h
    exact ⟨a, vs, e, m.h _ _ h1, (m.ep _ _ h1).trans h3, IsL.mono m h2⟩
  | .obj c ns xs, v, h => by
    rw [Is] at h ⊢
    obtain ⟨a, dx, vs, e, h1, h3, h2⟩ := h
    exact ⟨a, dx, vs, e, m.h _ _ h1, h3, IsL.mono m h2⟩
  | .scr ns, v, h => by
    rw [Is] at h ⊢
    obtain ⟨a, e, h1⟩ := h
    exact ⟨a, e, SqL.le m.h h1⟩
theorem IsL.mono (m : Fle F F') : ∀ {xs : List D} {vs : List V}, IsL G F xs vs → IsL G F' xs vs
  | [], vs, h => by rw [IsL] at h ⊢; exact h
  | x :: xs, vs, h => by
    rw [IsL] at h ⊢
    obtain ⟨v, r, e, h1, h2⟩ := h
    exact ⟨v, r, e, Is.mono m h1, IsL.mono m h2⟩
end
end

/-- an owned object at a -/
def CellAt (G : Gx) (F : Fz) (H : Hp) (a : Addr) (c : Cell) : Prop := F.h a = none ∧ match c with
  | .lst xs => ∃ vs, H a = some (.lst vs) ∧ IsL G F xs vs
  | .obj c ns xs => ∃ dx vs, H a = some (.ins (G.ca c) dx ((ns.map G.fname).zip vs)) ∧ (ns.length = xs.length ∧ G.ck c) ∧ IsL G F xs vs
theorem CellAt.some {G : Gx} {F : Fz} {H : Hp} {a : Addr} {c : Cell} (h : CellAt G F H a c) : ∃ o, H a = some o := by
  cases c with
  | lst xs => obtain ⟨_, vs, e, _⟩ := h; exact ⟨_, e⟩
  | obj c ns xs => obtain ⟨_, dx, vs, e, _⟩ := h; exact ⟨_, e⟩

def OwnA (e : Env) (σ : St) (a : Addr) : Prop := ∃ i c, e.get i = some (.own c) ∧ σ[i]? = some (some (.ref a))

structure Rel (G : Gx) (F : Fz) (e : Env) (σ : St) (H : Hp) : Prop where
  sub : ∀ a o, F.h a = some o → H a = some o
  len : e.sl.length = σ.length
  dat : ∀ i x, e.get i = some (.d x) → ∃ v, σ[i]? = some (some v) ∧ Is G F x v
  own : ∀ i c, e.get i = some (.own c) → ∃ a, σ[i]? = some (some (.ref a)) ∧ CellAt G F H a c
  dis : ∀ i j c c' a, e.get i = some (.own c) → e.get j = some (.own c') → σ[i]? = some (some (.ref a)) → σ[j]? = some (some (.ref a)) → i = j
  ept : ∀ a o, F.h a = some o → F.ep a ≤ e.t

structure Step (T : Nat) (F : Fz) (e : Env) (σ : St) (H : Hp) (F' : Fz) (e' : Env) (σ' : St) (H' : Hp) : Prop where
  le : ∀ a o, F.h a = some o → F.ep a ≤ T → F'.h a = some o ∧ F'.ep a = F.ep a
  fr : ∀ a o, F'.h a = some o → F.h a ≠ none ∨ H a = none ∨ OwnA e σ a
  kp : ∀ a o, H a = some o → ¬ OwnA e σ a → (F.h a = none ∨ F.ep a ≤ T) → H' a = some o
  ow : ∀ a, OwnA e' σ' a → OwnA e σ a ∨ H a = none
  th : ∀ a, H' a = none → H a = none
  tm : e.t ≤ e'.t

theorem Step.refl {T : Nat} {F : Fz} {e : Env} {σ : St} {H : Hp} : Step T F e σ H F e σ H :=
  ⟨fun _ _ h _ => ⟨h, rfl⟩, fun a o h => .inl (by rw [h]; simp), fun _ _ h _ _ => h, fun _ h => .inl h, fun _ h => h, Nat.le_refl _⟩
theorem Step.trans {T : Nat} {F F1 F2 : Fz} {e e1 e2 : Env} {σ s1 s2 : St} {H H1 H2 : Hp} (x : Step T F e σ H F1 e1 s1 H1) (y : Step T F1 e1 s1 H1 F2 e2 s2 H2) : Step T F e σ H F2 e2 s2 H2 := by
  refine ⟨fun a o h t => ?_, fun a o h => ?_, fun a o h n z => ?_, fun a h => ?_, fun a h => x.th a (y.th a h), Nat.le_trans x.tm y.tm⟩
  · obtain ⟨h1, h2⟩ := x.le a o h t
    obtain ⟨h3, h4⟩ := y.le a o h1 (by rw [h2]; exact t)
    exact ⟨h3, h4.trans h2⟩
  · rcases y.fr a o h with h1 | h1 | h1
    · obtain ⟨u, hu⟩ := Option.ne_none_iff_exists'.mp h1
      exact x.fr a u hu
    · exact .inr (.inl (x.th a h1))
    · rcases x.ow a h1 with q | q
      · exact .inr (.inr q)
      · exact .inr (.inl q)
  · have h1 := x.kp a o h n z
    refine y.kp a o h1 (fun w => ?_) ?_
    · rcases x.ow a w with q | q
      · exact n q
      · rw [h] at q; cases q
    · cases q : F1.h a with
      | none => exact .inl rfl
      | some u =>
        refine .inr ?_
        rcases x.fr a u q with r | r | r
        · rcases z with z | z
          · exact absurd z r
          · obtain ⟨u', hu'⟩ := Option.ne_none_iff_exists'.mp r
            rw [(x.le a u' hu' z).2]; exact z
        · rw [h] at r; cases r
        · exact absurd r n
  · rcases y.ow a h with q | q
    · exact x.ow a q
    · exact .inr (x.th a q)
/-- a smaller base epoch asks less -/
theorem Step.base {T T' : Nat} {F F1 : Fz} {e e1 : Env} {σ s1 : St} {H H1 : Hp} (x : Step T F e σ H F1 e1 s1 H1) (h : T' ≤ T) : Step T' F e σ H F1 e1 s1 H1 :=
  ⟨fun a o q t => x.le a o q (Nat.le_trans t h), x.fr, fun a o q n z => x.kp a o q n (z.imp id fun z => Nat.le_trans z h), x.ow, x.th, x.tm⟩

section
variable {G : Gx} {F F' : Fz} {e e' : Env} {σ : St} {H H' : Hp}
/-- an expression's step: the whole frozen part stays -/
theorem Rel.fle (R : Rel G F e σ H) {σ' : St} (s : Step e.t F e σ H F' e' σ' H') : Fle F F' := ⟨fun a o h => (s.le a o h (R.ept a o h)).1, fun a o h => (s.le a o h (R.ept a o h)).2⟩

/-- what a value is in the heap; new things are younger than H0 -/
def WRel (G : Gx) (F : Fz) (e : Env) (σ : St) (H H0 : Hp) : W → V → Prop
  | .d x, v => Is G F x v
  | .new c, v => ∃ a, v = .ref a ∧ CellAt G F H a c ∧ ¬ OwnA e σ a ∧ H0 a = none
  | .at_ i, v => σ[i]? = some (some v)
def SlRel (G : Gx) (F : Fz) (H : Hp) : Sl → V → Prop
  | .d x, v => Is G F x v
  | .own c, v => ∃ a, v = .ref a ∧ CellAt G F H a c
/-- an object that nobody owns and that is not frozen stands -/
theorem CellAt.step (R : Rel G F e σ H) {σ' : St} (s : Step e.t F e σ H F' e' σ' H') {a : Addr} {c : Cell} (h : CellAt G F H a c) (n : ¬ OwnA e σ a) : CellAt G F' H' a c ∧ ¬ OwnA e' σ' a := by
  have f : F.h a = none := h.1
  obtain ⟨o, ho⟩ := h.some
  have hf : F'.h a = none := by
    cases q : F'.h a with
    | none => rfl
    | some u =>
      rcases s.fr a u q with r | r | r
      · exact absurd f r
      · rw [ho] at r; cases r
      · exact absurd r n
  refine ⟨⟨hf, ?_⟩, fun w => ?_⟩
  · have h2 := h.2
    cases c with
    | lst xs =>
      obtain ⟨vs, e1, e2⟩ := h2
      exact ⟨vs, s.kp a _ e1 n (.inl f), e2.mono (R.fle s)⟩
    | obj c ns xs =>
      obtain ⟨dx, vs, e1, e3, e2⟩ := h2
      exact ⟨dx, vs, s.kp a _ e1 n (.inl f), e3, e2.mono (R.fle s)⟩
  · rcases s.ow a w with q | q
    · exact n q
    · rw [ho] at q; cases q
theorem WRel.step (R : Rel G F e σ H) {H0 : Hp} (s : Step e.t F e σ H F' e' σ H') : ∀ {w : W} {v : V}, WRel G F e σ H H0 w v → WRel G F' e' σ H' H0 w v
  | .d x, v, h => Is.mono (R.fle s) h
  | .new c, v, h => by
    obtain ⟨a, e1, h1, h2, h3⟩ := h
    obtain ⟨h4, h5⟩ := h1.step R s h2
    exact ⟨a, e1, h4, h5, h3⟩
  | .at_ i, v, h => h


theorem WRel.early {H0 H1 : Hp} (h : ∀ a, H1 a = none → H0 a = none) : ∀ {w : W} {v : V}, WRel G F e σ H H1 w v → WRel G F e σ H H0 w v
  | .d x, v, r => r
  | .new c, v, r => by
    obtain ⟨a, e1, h1, h2, h3⟩ := r
    exact ⟨a, e1, h1, h2, h _ h3⟩
  | .at_ i, v, r => r
theorem Rel.own_some (R : Rel G F e σ H) {a : Addr} (h : OwnA e σ a) : ∃ o, H a = some o := by
  obtain ⟨i, c, h1, h2⟩ := h
  obtain ⟨b, h3, h4⟩ := R.own i c h1
  rw [h2] at h3
  cases h3
  exact h4.some
theorem Rel.fresh (R : Rel G F e σ H) {p : Addr} (hp : H p = none) : F.h p = none ∧ ¬ OwnA e σ p := by
  refine ⟨?_, fun w => ?_⟩
  · cases q : F.h p with
    | none => rfl
    | some o => rw [R.sub p o q] at hp; cases hp
  · obtain ⟨o, h⟩ := R.own_some w
    rw [hp] at h; cases h

abbrev KW (α : Type) := α → Fz → Env → Hp → Prop
/-- where an evaluation began -/
structure Anch where
  F : Fz
  e : Env
  H : Hp
abbrev Anch.to (A : Anch) (σ : St) (F : Fz) (e : Env) (H : Hp) : Prop := Step A.e.t A.F A.e σ A.H F e σ H
/-- what is wanted behind an evaluation that began at A -/
def Ex {α : Type} (G : Gx) (Wx : KW D) (A : Anch) (σ : St) (m : M α) (e : Env) (K : KW α) : Prop := match m e with
  | .ok a e' => ∀ F' H', Rel G F' e' σ H' → A.to σ F' e' H' → e'.t = A.e.t → K a F' e' H'
  | .exc x e' => ∀ F' H', Rel G F' e' σ H' → A.to σ F' e' H' → e'.t = A.e.t → Wx x F' e' H'
  | .stuck => False

variable {α β : Type} {Wx : KW D} {m : M α} {f : α → M β} {K : KW β} {K' : KW α} {A : Anch}
theorem Ex.bnd (h : Ex G Wx A σ (MV.bnd m f) e K) : Ex G Wx A σ m e (fun a _ e1 _ => Ex G Wx A σ (f a) e1 K) := by
  unfold Ex MV.bnd at h
  unfold Ex
  cases q : m e with
  | ok a e1 =>
    rw [q] at h
    exact fun _ _ _ _ _ => h
  | exc a e1 => rw [q] at h; exact h
  | stuck => rw [q] at h; exact h
theorem Ex.mono {K2 : KW α} (h : Ex G Wx A σ m e K') (k : ∀ a F' e' H', Rel G F' e' σ H' → A.to σ F' e' H' → e'.t = A.e.t → K' a F' e' H' → K2 a F' e' H') : Ex G Wx A σ m e K2 := by
  unfold Ex at h ⊢
  cases q : m e with
  | ok a e1 =>
    rw [q] at h
    dsimp only at h ⊢
    exact fun F1 H1 R1 s1 t1 => k _ _ _ _ R1 s1 t1 (h F1 H1 R1 s1 t1)
  | exc a e1 => rw [q] at h; exact h
  | stuck => rw [q] at h; exact h
/-- a later beginning -/
theorem Ex.later {A' : Anch} (h : Ex G Wx A σ m e K') (s : A.to σ A'.F A'.e A'.H) (t : A'.e.t = A.e.t) : Ex G Wx A' σ m e K' := by
  unfold Ex at h ⊢
  have c : ∀ {F' e' H'}, A'.to σ F' e' H' → A.to σ F' e' H' := fun {F' e' H'} x => by
    have x' : Step A'.e.t A'.F A'.e σ A'.H F' e' σ H' := x
    rw [t] at x'
    exact s.trans x'
  cases q : m e with
  | ok a e1 =>
    rw [q] at h
    dsimp only at h ⊢
    exact fun F1 H1 R1 s1 t1 => h F1 H1 R1 (c s1) (t1.trans t)
  | exc a e1 =>
    rw [q] at h
    dsimp only at h ⊢
    exact fun F1 H1 R1 s1 t1 => h F1 H1 R1 (c s1) (t1.trans t)
  | stuck => rw [q] at h; exact h
theorem Ex.ret {a : α} (h : Ex G Wx A σ (MV.ret a) e K') : ∀ F' H', Rel G F' e σ H' → A.to σ F' e H' → e.t = A.e.t → K' a F' e H' := h
theorem Ex.opt {o : Option α} (h : Ex G Wx A σ (MV.bnd (optM o) f) e K) : ∃ a, o = some a ∧ Ex G Wx A σ (f a) e K := by
  cases o with
  | none => exact False.elim h
  | some a => exact ⟨a, rfl, h⟩
theorem Ex.optL {o : Option α} (h : Ex G Wx A σ (optM o) e K') : ∃ a, o = some a ∧ ∀ F' H', Rel G F' e σ H' → A.to σ F' e H' → e.t = A.e.t → K' a F' e H' := by
  cases o with
  | none => exact False.elim h
  | some a => exact ⟨a, rfl, h⟩
theorem Ex.rd (R : Rel G F e σ H) {w : W} {v : V} {H0 : Hp} {f : Sl → M β} (r : WRel G F e σ H H0 w v) (h : Ex G Wx A σ (MV.bnd (MV.rd w) f) e K) : ∃ s, SlRel G F H s v ∧ Ex G Wx A σ (f s) e K := by
  cases w with
  | d x => exact ⟨.d x, r, h⟩
  | new c =>
    obtain ⟨a, e1, h1, _, _⟩ := r
    exact ⟨.own c, ⟨a, e1, h1⟩, h⟩
  | at_ i =>
    cases q : e.get i with
    | none =>
      have q' : MV.bnd (MV.rd (.at_ i)) f e = .stuck := by unfold MV.bnd MV.rd; simp only [q]
      unfold Ex at h
      rw [q'] at h
      exact h.elim
    | some s =>
      have q' : MV.bnd (MV.rd (.at_ i)) f e = f s e := by unfold MV.bnd MV.rd; simp only [q]
      unfold Ex at h
      rw [q'] at h
      have r' : σ[i]? = some (some v) := r
      refine ⟨s, ?_, h⟩
      cases s with
      | d x =>
        obtain ⟨v', h1, h2⟩ := R.dat i x q
        rw [r'] at h1; cases h1
        exact h2
      | own c =>
        obtain ⟨a, h1, h2⟩ := R.own i c q
        rw [r'] at h1; cases h1
        exact ⟨a, rfl, h2⟩

/-- the reading of an expression by its meaning -/
def RT (G : Gx) (Wx : St → KW D) (m : M W) : TE := fun σ H Q => ∃ F e, Rel G F e σ H ∧ Ex G (Wx σ) ⟨F, e, H⟩ σ m e (fun w F' e' H' => ∀ v, WRel G F' e' σ H' H w v → Q v H')
theorem RT.mono {Wx : St → KW D} {m : M W} {Q Q' : VK} (h : RT G Wx m σ H Q) (k : ∀ v H', Q v H' → Q' v H') : RT G Wx m σ H Q' := by
  obtain ⟨F, e, R, h⟩ := h
  exact ⟨F, e, R, h.mono fun w F1 e1 H1 _ _ _ h1 v r => k v H1 (h1 v r)⟩
/-- a part is evaluated, then the rest -/
theorem Ex.rt {Wx : St → KW D} {m : M W} {f : W → M β} (R : Rel G F e σ H) (s : A.to σ F e H) (t : e.t = A.e.t) (h : Ex G (Wx σ) A σ (MV.bnd m f) e K) :
    RT G Wx m σ H (fun v H1 => ∃ F1 e1 w, Rel G F1 e1 σ H1 ∧ Step e.t F e σ H F1 e1 σ H1 ∧ A.to σ F1 e1 H1 ∧ e1.t = A.e.t ∧ WRel G F1 e1 σ H1 H w v ∧ Ex G (Wx σ) A σ (f w) e1 K) := by
  refine ⟨F, e, R, (h.bnd.later (A' := ⟨F, e, H⟩) s t).mono fun w F1 e1 H1 R1 s1 t1 h1 v r => ?_⟩
  have s1' : Step e.t F e σ H F1 e1 σ H1 := s1
  have t1' : e1.t = e.t := t1
  refine ⟨F1, e1, w, R1, s1, ?_, t1'.trans t, r, h1⟩
  rw [t] at s1'
  exact Step.trans s s1'
theorem Ex.rtL {Wx : St → KW D} {m : M W} {K : KW W} (R : Rel G F e σ H) (s : A.to σ F e H) (t : e.t = A.e.t) (h : Ex G (Wx σ) A σ m e K) :
    RT G Wx m σ H (fun v H1 => ∃ F1 e1 w, Rel G F1 e1 σ H1 ∧ Step e.t F e σ H F1 e1 σ H1 ∧ A.to σ F1 e1 H1 ∧ e1.t = A.e.t ∧ WRel G F1 e1 σ H1 H w v ∧ K w F1 e1 H1) := by
  refine ⟨F, e, R, (h.later (A' := ⟨F, e, H⟩) s t).mono fun w F1 e1 H1 R1 s1 t1 h1 v r => ?_⟩
  have s1' : Step e.t F e σ H F1 e1 σ H1 := s1
  have t1' : e1.t = e.t := t1
  refine ⟨F1, e1, w, R1, s1, ?_, t1'.trans t, r, h1⟩
  rw [t] at s1'
  exact Step.trans s s1'
theorem Step.to {A : Anch} {F' : Fz} {e' : Env} {H' : Hp} (s : A.to σ F e H) (t : e.t = A.e.t) (s' : Step e.t F e σ H F' e' σ H') : A.to σ F' e' H' := by
  rw [t] at s'
  exact Step.trans s s'
/-- the whole expression's evaluation, begun -/
theorem RT.open {Wx : St → KW D} {m : M W} {Q : VK} (h : RT G Wx m σ H Q) : ∃ F e, Rel G F e σ H ∧ Ex G (Wx σ) ⟨F, e, H⟩ σ m e (fun w F' e' H' => ∀ v, WRel G F' e' σ H' H w v → Q v H') := h

/-- one more frozen object -/
def Fz.add (F : Fz) (p : Addr) (o : HO) (t : Nat) : Fz := ⟨upd F.h p o, fun a => if a = p then t else F.ep a⟩
theorem Fz.add_le {p : Addr} {o : HO} {t : Nat} (h : F.h p = none) : Fle F (F.add p o t) := by
  refine ⟨fun a u q => ?_, fun a u q => ?_⟩
  · show upd F.h p o a = some u
    rw [upd_ne (ne_of_none q h)]; exact q
  · show (if a = p then t else F.ep a) = F.ep a
    rw [if_neg (ne_of_none q h)]
theorem CellAt.upd_ne {a p : Addr} {c : Cell} {o : HO} (h : CellAt G F H a c) (n : a ≠ p) : CellAt G F (upd H p o) a c := by
  refine ⟨h.1, ?_⟩
  have h2 := h.2
  cases c with
  | lst xs => obtain ⟨vs, e1, e2⟩ := h2; exact ⟨vs, by rw [L2.upd_ne n]; exact e1, e2⟩
  | obj c ns xs => obtain ⟨dx, vs, e1, e3, e2⟩ := h2; exact ⟨dx, vs, by rw [L2.upd_ne n]; exact e1, e3, e2⟩
/-- a new object that is not frozen -/
theorem Rel.alloc (R : Rel G F e σ H) {p : Addr} {o : HO} (hp : H p = none) : Rel G F e σ (upd H p o) ∧ Step e.t F e σ H F e σ (upd H p o) := by
  refine ⟨⟨fun a u q => ?_, R.len, R.dat, fun i c q => ?_, R.dis, R.ept⟩, ⟨fun _ _ h _ => ⟨h, rfl⟩, fun a u q => .inl (by rw [q]; simp), fun a u q _ _ => ?_, fun _ h => .inl h, fun a h => ?_, Nat.le_refl _⟩⟩
  · rw [upd_ne (ne_of_none (R.sub a u q) hp)]; exact R.sub a u q
  · obtain ⟨a, h1, h2⟩ := R.own i c q
    obtain ⟨u, hu⟩ := h2.some
    exact ⟨a, h1, h2.upd_ne (ne_of_none hu hp)⟩
  · rw [upd_ne (ne_of_none q hp)]; exact q
  · by_cases z : a = p
    · rw [z]; exact hp
    · rw [upd_ne z] at h; exact h
theorem Rel.alloc_new (R : Rel G F e σ H) {p : Addr} {xs : List D} {vs : List V} (hp : H p = none) (h : IsL G F xs vs) : Rel G F e σ (upd H p (.lst vs)) ∧ Step e.t F e σ H F e σ (upd H p (.lst vs)) ∧
    WRel G F e σ (upd H p (.lst vs)) H (.new (.lst xs)) (.ref p) := by
  obtain ⟨h1, h2⟩ := R.alloc (o := .lst vs) hp
  obtain ⟨h3, h4⟩ := R.fresh hp
  exact ⟨h1, h2, p, rfl, ⟨h3, vs, upd_same, h⟩, h4, hp⟩
/-- a new frozen object -/
theorem Rel.alloc_frz (R : Rel G F e σ H) {p : Addr} {o : HO} (hp : H p = none) : Rel G (F.add p o e.t) e σ (upd H p o) ∧ Step e.t F e σ H (F.add p o e.t) e σ (upd H p o) ∧ Fle F (F.add p o e.t) := by
  obtain ⟨h1, h2⟩ := R.alloc (o := o) hp
  obtain ⟨h3, h4⟩ := R.fresh hp
  have L := Fz.add_le (o := o) (t := e.t) h3
  refine ⟨⟨fun a u q => ?_, R.len, fun i x q => ?_, fun i c q => ?_, R.dis, fun a u q => ?_⟩, ⟨fun a u q _ => ⟨L.h a u q, L.ep a u q⟩, fun a u q => ?_, h2.kp, h2.ow, h2.th, Nat.le_refl _⟩, L⟩
  · by_cases z : a = p
    · subst z
      have q' : upd F.h a o a = some u := q
      rw [upd_same] at q' ⊢; exact q'
    · have q' : upd F.h p o a = some u := q
      rw [upd_ne z] at q' ⊢; exact R.sub a u q'
  · obtain ⟨v, e1, e2⟩ := R.dat i x q
    exact ⟨v, e1, e2.mono L⟩
  · obtain ⟨a, e1, e2⟩ := h1.own i c q
    refine ⟨a, e1, ?_⟩
    have na : a ≠ p := fun z => h4 ⟨i, c, q, z ▸ e1⟩
    refine ⟨by show upd F.h p o a = none; rw [upd_ne na]; exact e2.1, ?_⟩
    have h5 := e2.2
    cases c with
    | lst xs => obtain ⟨vs, e1, e2⟩ := h5; exact ⟨vs, e1, e2.mono L⟩
    | obj c ns xs => obtain ⟨dx, vs, e1, e3, e2⟩ := h5; exact ⟨dx, vs, e1, e3, e2.mono L⟩
  · show (if a = p then e.t else F.ep a) ≤ e.t
    by_cases z : a = p
    · rw [if_pos z]; exact Nat.le_refl _
    · rw [if_neg z]
      have q' : upd F.h p o a = some u := q
      rw [upd_ne z] at q'
      exact R.ept a u q'
  · by_cases z : a = p
    · exact .inr (.inl (z ▸ hp))
    · have q' : upd F.h p o a = some u := q
      rw [upd_ne z] at q'
      exact .inl (by rw [q']; simp)
theorem Rel.alloc_tup (R : Rel G F e σ H) {p : Addr} {xs : List D} {vs : List V} (hp : H p = none) (h : IsL G F xs vs) : ∃ F', Rel G F' e σ (upd H p (.tup vs)) ∧ Step e.t F e σ H F' e σ (upd H p (.tup vs)) ∧ Is G F' (.tup xs) (.ref p) := by
  obtain ⟨h1, h2, L⟩ := R.alloc_frz (o := .tup vs) hp
  refine ⟨_, h1, h2, ?_⟩
  rw [Is]
  exact ⟨p, vs, rfl, SqT.of (show upd F.h p (.tup vs) p = some _ from upd_same), h.mono L⟩

theorem Env.get_set (e : Env) (i j : Nat) (s : Option Sl) : (e.set i s).get j = if j = i ∧ i < e.sl.length then s else e.get j := by
  unfold Env.get Env.set
  dsimp only
  by_cases h : j = i
  · subst h
    by_cases hl : j < e.sl.length
    · rw [List.getElem?_set_self hl, if_pos ⟨rfl, hl⟩]
      cases s <;> rfl
    · rw [if_neg (fun z => hl z.2)]
      rw [List.getElem?_eq_none (by simpa using hl), List.getElem?_eq_none (by simpa using hl)]
  · rw [List.getElem?_set_ne (Ne.symm h), if_neg (fun z => h z.1)]
theorem Env.get_lt {e : Env} {i : Nat} {s : Sl} (h : e.get i = some s) : i < e.sl.length := by
  unfold Env.get at h
  cases q : e.sl[i]? with
  | none => rw [q] at h; cases h
  | some x => exact (List.getElem?_eq_some_iff.mp q).1
theorem Env.set_t (e : Env) (i : Nat) (s : Option Sl) : (e.set i s).t = e.t := rfl

/-- an object of the heap is frozen; e' has it no more among its own ones -/
theorem Rel.freeze (R : Rel G F e σ H) {a : Addr} {o : HO} (ho : H a = some o) (hf : F.h a = none) {e' : Env} (ht : e'.t = e.t) (hlen : e'.sl.length = e.sl.length)
    (hd : ∀ i x, e'.get i = some (.d x) → e.get i = some (.d x) ∨ ∃ v, σ[i]? = some (some v) ∧ Is G (F.add a o e.t) x v)
    (hn : ∀ i c, e'.get i = some (.own c) → e.get i = some (.own c) ∧ σ[i]? ≠ some (some (.ref a))) (hw : OwnA e σ a ∨ True) :
    Rel G (F.add a o e.t) e' σ H ∧ ((¬ OwnA e σ a → False) ∨ True) ∧ Fle F (F.add a o e.t) := by
  have L := Fz.add_le (o := o) (t := e.t) hf
  refine ⟨⟨fun b u q => ?_, hlen.trans R.len, fun i x q => ?_, fun i c q => ?_, fun i j c c' b q1 q2 q3 q4 => ?_, fun b u q => ?_⟩, .inr trivial, L⟩
  · by_cases z : b = a
    · subst z
      have q' : upd F.h b o b = some u := q
      rw [upd_same] at q'; rw [ho]; exact q'
    · have q' : upd F.h a o b = some u := q
      rw [upd_ne z] at q'; exact R.sub b u q'
  · rcases hd i x q with q' | q'
    · obtain ⟨v, h1, h2⟩ := R.dat i x q'
      exact ⟨v, h1, h2.mono L⟩
    · exact q'
  · obtain ⟨q', ne⟩ := hn i c q
    obtain ⟨b, h1, h2⟩ := R.own i c q'
    refine ⟨b, h1, ?_⟩
    have nb : b ≠ a := fun z => ne (z ▸ h1)
    refine ⟨by show upd F.h a o b = none; rw [upd_ne nb]; exact h2.1, ?_⟩
    have h5 := h2.2
    cases c with
    | lst xs => obtain ⟨vs, e1, e2⟩ := h5; exact ⟨vs, e1, e2.mono L⟩
    | obj c ns xs => obtain ⟨dx, vs, e1, e3, e2⟩ := h5; exact ⟨dx, vs, e1, e3, e2.mono L⟩
  · exact R.dis i j c c' b (hn i c q1).1 (hn j c' q2).1 q3 q4
  · show (if b = a then e.t else F.ep b) ≤ e'.t
    rw [ht]
    by_cases z : b = a
    · rw [if_pos z]; exact Nat.le_refl _
    · rw [if_neg z]
      have q' : upd F.h a o b = some u := q
      rw [upd_ne z] at q'
      exact R.ept b u q'
theorem Cell.is (c : Cell) {a : Addr} (h : CellAt G F H a c) : ∃ o, H a = some o ∧ Is G (F.add a o e.t) (c.toD e.t) (.ref a) := by
  have L := fun o => Fz.add_le (F := F) (p := a) (o := o) (t := e.t) h.1
  have h2 := h.2
  cases c with
  | lst xs =>
    obtain ⟨vs, e1, e2⟩ := h2
    refine ⟨_, e1, ?_⟩
    show Is G _ (.lst e.t xs) _
    rw [Is]
    exact ⟨a, vs, rfl, (show upd F.h a (.lst vs) a = _ from upd_same), (show (if a = a then e.t else F.ep a) = e.t from if_pos rfl), e2.mono (L _)⟩
  | obj c ns xs =>
    obtain ⟨dx, vs, e1, e3, e2⟩ := h2
    refine ⟨_, e1, ?_⟩
    show Is G _ (.obj c ns xs) _
    rw [Is]
    exact ⟨a, dx, vs, rfl, (show upd F.h a _ a = _ from upd_same), e3, e2.mono (L _)⟩
/-- a step that only freezes the object at a, which was nobody's or a slot's -/
theorem Step.frz {T : Nat} {a : Addr} {o : HO} {e' : Env} {A : Anch} (s : Step T A.F A.e σ A.H F e σ H) (hf : F.h a = none) (ha : A.H a = none ∨ OwnA A.e σ a) (hT : T ≤ e.t) (ht : e'.t = e.t)
    (how : ∀ b, OwnA e' σ b → OwnA e σ b) : Step T A.F A.e σ A.H (F.add a o e.t) e' σ H := by
  have L := Fz.add_le (o := o) (t := e.t) hf
  refine ⟨fun b u q t => ?_, fun b u q => ?_, s.kp, fun b q => s.ow b (how b q), s.th, by rw [ht]; exact s.tm⟩
  · obtain ⟨h1, h2⟩ := s.le b u q t
    exact ⟨L.h b u h1, (L.ep b u h1).trans h2⟩
  · by_cases z : b = a
    · subst z
      rcases ha with ha | ha
      · exact .inr (.inl ha)
      · exact .inr (.inr ha)
    · have q' : upd F.h a o b = some u := q
      rw [upd_ne z] at q'
      exact s.fr b u q'
theorem WRel.frz {a : Addr} {o : HO} {t : Nat} {e' : Env} {H0 : Hp} (L : Fle F (F.add a o t)) (ow : ∀ b, OwnA e' σ b → OwnA e σ b) : ∀ {w : W} {v : V}, WRel G F e σ H H0 w v → (∀ c, w = .new c → v ≠ .ref a) → WRel G (F.add a o t) e' σ H H0 w v
  | .d x, v, h, _ => Is.mono L h
  | .at_ i, v, h, _ => h
  | .new c, v, h, n => by
    obtain ⟨b, e1, h1, h2, h3⟩ := h
    have nb : b ≠ a := fun z => n c rfl (z ▸ e1)
    refine ⟨b, e1, ⟨by show upd F.h a o b = none; rw [upd_ne nb]; exact h1.1, ?_⟩, fun q => h2 (ow b q), h3⟩
    have h5 := h1.2
    cases c with
    | lst xs => obtain ⟨vs, e1, e2⟩ := h5; exact ⟨vs, e1, e2.mono L⟩
    | obj c ns xs => obtain ⟨dx, vs, e1, e3, e2⟩ := h5; exact ⟨dx, vs, e1, e3, e2.mono L⟩
/-- freezing a value -/
theorem Ex.frz2 (R : Rel G F e σ H) (s : A.to σ F e H) (t : e.t = A.e.t) {w : W} {v : V} {f : D → M β} (r : WRel G F e σ H A.H w v) (h : Ex G Wx A σ (MV.bnd (MV.frz w) f) e K) :
    ∃ F1 e1 d, Rel G F1 e1 σ H ∧ A.to σ F1 e1 H ∧ e1.t = A.e.t ∧ Is G F1 d v ∧ Ex G Wx A σ (f d) e1 K ∧ Fle F F1 ∧
      ∀ H0 w' u', WRel G F e σ H H0 w' u' → (∀ c c', w = .new c → w' = .new c' → v ≠ u') → WRel G F1 e1 σ H H0 w' u' := by
  have hT : A.e.t ≤ e.t := Nat.le_of_eq t.symm
  cases w with
  | d x => exact ⟨F, e, x, R, s, t, r, h, .refl F, fun _ _ _ r _ => r⟩
  | new c =>
    obtain ⟨a, e1, h1, h2, h3⟩ := r
    subst e1
    obtain ⟨o, ho, hi⟩ := c.is (e := e) h1
    obtain ⟨R1, _, L⟩ := R.freeze ho h1.1 (e' := e) rfl rfl (fun i x q => .inl q) (fun i c' q => ⟨q, fun z => h2 ⟨i, c', q, z⟩⟩) (.inr trivial)
    exact ⟨_, e, c.toD e.t, R1, Step.frz (A := A) s h1.1 (.inl h3) hT rfl fun b q => q, t, hi, h, L, fun H0 w' u' r' n' => r'.frz L (fun b q => q) fun c' e' z => n' c c' rfl e' z.symm⟩
  | at_ i =>
    cases q : e.get i with
    | none =>
      have q' : MV.bnd (MV.frz (.at_ i)) f e = .stuck := by unfold MV.bnd MV.frz; simp only [q]
      unfold Ex at h
      rw [q'] at h
      exact h.elim
    | some sl =>
      have r' : σ[i]? = some (some v) := r
      cases sl with
      | d x =>
        have q' : MV.bnd (MV.frz (.at_ i)) f e = f x e := by unfold MV.bnd MV.frz; simp only [q]
        unfold Ex at h
        rw [q'] at h
        obtain ⟨v', h1, h2⟩ := R.dat i x q
        rw [r'] at h1; cases h1
        exact ⟨F, e, x, R, s, t, h2, h, .refl F, fun _ _ _ r _ => r⟩
      | own c =>
        have q' : MV.bnd (MV.frz (.at_ i)) f e = f (c.toD e.t) (e.set i (some (.d (c.toD e.t)))) := by unfold MV.bnd MV.frz; simp only [q]
        unfold Ex at h
        rw [q'] at h
        obtain ⟨a, h1, h2⟩ := R.own i c q
        rw [r'] at h1; cases h1
        obtain ⟨o, ho, hi⟩ := c.is (e := e) h2
        have own : OwnA e σ a := ⟨i, c, q, r'⟩
        have hl := Env.get_lt q
        have keep : ∀ j c', (e.set i (some (.d (c.toD e.t)))).get j = some (.own c') → e.get j = some (.own c') ∧ j ≠ i := fun j c' qj => by
          rw [Env.get_set] at qj
          split at qj
          · cases qj
          · rename_i n
            exact ⟨qj, fun z => n ⟨z, hl⟩⟩
        have dt : ∀ j x, (e.set i (some (.d (c.toD e.t)))).get j = some (.d x) → e.get j = some (.d x) ∨ ∃ v, σ[j]? = some (some v) ∧ Is G (F.add a o e.t) x v := fun j x qj => by
          rw [Env.get_set] at qj
          split at qj
          · rename_i z
            obtain ⟨rfl, _⟩ := z
            cases qj
            exact .inr ⟨_, r', hi⟩
          · exact .inl qj
        have ow : ∀ j c', (e.set i (some (.d (c.toD e.t)))).get j = some (.own c') → e.get j = some (.own c') ∧ σ[j]? ≠ some (some (.ref a)) := fun j c' qj => by
          obtain ⟨q1, ne⟩ := keep j c' qj
          exact ⟨q1, fun z => ne (R.dis j i c' c a q1 q z r')⟩
        obtain ⟨R1, _, L⟩ := R.freeze ho h2.1 (e' := e.set i (some (.d (c.toD e.t)))) rfl (by simp [Env.set]) dt ow (.inr trivial)
        refine ⟨_, _, c.toD e.t, R1, Step.frz (A := A) (e' := e.set i (some (.d (c.toD e.t)))) s h2.1 ?_ hT rfl fun b ⟨j, c', qj, z⟩ => ⟨j, c', (keep j c' qj).1, z⟩, t, hi, h, L, fun H0 w' u' r' n' => r'.frz L (fun b ⟨j, c', qj, z⟩ => ⟨j, c', (keep j c' qj).1, z⟩) fun c' e' z => ?_⟩
        · rcases s.ow a own with z | z
          · exact .inr z
          · exact .inl z
        · subst e'
          obtain ⟨b, e1, _, h7, _⟩ := r'
          rw [e1] at z
          cases z
          exact h7 own
theorem Ex.frz (R : Rel G F e σ H) (s : A.to σ F e H) (t : e.t = A.e.t) {w : W} {v : V} {f : D → M β} (r : WRel G F e σ H A.H w v) (h : Ex G Wx A σ (MV.bnd (MV.frz w) f) e K) :
    ∃ F1 e1 d, Rel G F1 e1 σ H ∧ A.to σ F1 e1 H ∧ e1.t = A.e.t ∧ Is G F1 d v ∧ Ex G Wx A σ (f d) e1 K ∧ Fle F F1 := by
  obtain ⟨F1, e1, d, h1, h2, h3, h4, h5, h6, _⟩ := Ex.frz2 R s t r h
  exact ⟨F1, e1, d, h1, h2, h3, h4, h5, h6⟩
end
end MV
/-! MVExpr: the rules of expressions. -/
namespace MV
open PySem PySem.Spec L2

theorem PE.imp {X : Cx} {e : Expr} {t t' : TE} (h : PE X e t) (k : ∀ σ H Q, t' σ H Q → t σ H Q) : PE X e t' := ⟨fun pins s σ H Q I h' => h.run pins s σ H Q I (k σ H Q h')⟩
theorem PT.imp {X : Cx} {e : Expr} {t t' : TT} (h : PT X e t) (k : ∀ σ H Q, t' σ H Q → t σ H Q) : PT X e t' := ⟨fun pins s σ H Q I h' => h.run pins s σ H Q I (k σ H Q h')⟩
theorem PA.imp {X : Cx} {e : List Expr} {t t' : TA} (h : PA X e t) (k : ∀ σ H Q, t' σ H Q → t σ H Q) : PA X e t' := ⟨fun pos pins s σ H Q I h' => h.run pos pins s σ H Q I (k σ H Q h')⟩

abbrev W0 : L2.St → KW D := fun _ _ _ _ _ => False
section
variable {G : Gx} {F F' : Fz} {e e' : Env} {σ : L2.St} {H H' : Hp} {s t : Sl} {v w : V}
theorem Rel.le_line (h : Is G F (.str x) v) : v = .str x ∧ x.length ≤ sizeLine := by
  rw [Is] at h
  rw [sizeLine_eq]; exact h
theorem line_eq : (16777216 : Nat) = sizeLine := by rw [sizeLine_eq]
theorem Is.str_of {x : Str} (h : x.length ≤ 16777216) : Is G F (.str x) (.str x) := by rw [Is]; exact ⟨rfl, h⟩
theorem Is.int_of {i : Int} : Is G F (.int i) (.int i) := by rw [Is]
theorem Is.bl_of {i : Bool} : Is G F (.bl i) (.bl i) := by rw [Is]
theorem Is.non_of : Is G F .non .non := by rw [Is]
/-- the items of a list, frozen or owned -/
theorem lst_of {xs : List D} (R : Rel G F e σ H) (h : SlRel G F H s v) (q : s.lst? = some xs) : ∃ a vs, v = .ref a ∧ H a = some (.lst vs) ∧ IsL G F xs vs := by
  cases s with
  | d x =>
    cases x with
    | lst t ys =>
      cases q
      have h : Is G F (.lst t xs) v := h
      rw [Is] at h
      obtain ⟨a, vs, e1, h1, _, h2⟩ := h
      exact ⟨a, vs, e1, R.sub _ _ h1, h2⟩
    | _ => cases q
  | own c =>
    cases c with
    | lst ys =>
      cases q
      obtain ⟨a, e1, _, vs, h1, h2⟩ := h
      exact ⟨a, vs, e1, h1, h2⟩
    | obj c ns xs => cases q
theorem tup_of {xs : List D} (R : Rel G F e σ H) (h : SlRel G F H (.d (.tup xs)) v) : ∃ a vs, v = .ref a ∧ SqT G.K H a vs ∧ IsL G F xs vs := by
  have h : Is G F (.tup xs) v := h
  rw [Is] at h
  obtain ⟨a, vs, e1, h1, h2⟩ := h
  exact ⟨a, vs, e1, SqT.le R.sub h1, h2⟩
theorem seq_of {xs : List D} (R : Rel G F e σ H) (h : SlRel G F H s v) (q : s.seq? = some xs) : ∃ a vs, v = .ref a ∧ ((H a = some (.lst vs)) ∨ SqT G.K H a vs) ∧ IsL G F xs vs := by
  cases q2 : s.lst? with
  | some ys =>
    have e : xs = ys := by
      cases s with
      | d x => cases x <;> first | (cases q2; cases q; rfl) | cases q2
      | own c => cases c <;> first | (cases q2; cases q; rfl) | exact nomatch q2
    subst e
    obtain ⟨a, vs, e1, h1, h2⟩ := lst_of R h q2
    exact ⟨a, vs, e1, .inl h1, h2⟩
  | none =>
    cases s with
    | d x =>
      cases x with
      | tup ys =>
        cases q
        obtain ⟨a, vs, e1, h1, h2⟩ := tup_of R h
        exact ⟨a, vs, e1, .inr h1, h2⟩
      | lst t ys => cases q2
      | _ => cases q
    | own c =>
      cases c with
      | lst ys => exact nomatch q2
      | obj c ns ys => exact nomatch q

/-- an operation on two contents -/
def OK2 (G : Gx) (o : Sl → Sl → Option W) : R2 := fun x y H Q => ∃ F e σ s t w, Rel G F e σ H ∧ SlRel G F H s x ∧ SlRel G F H t y ∧ o s t = some w ∧
  ∀ F' H' v, Rel G F' e σ H' → Step e.t F e σ H F' e σ H' → WRel G F' e σ H' H w v → Q v H'
def OK1 (G : Gx) (o : Sl → Option W) : V → Hp → VK → Prop := fun x H Q => ∃ F e σ s w, Rel G F e σ H ∧ SlRel G F H s x ∧ o s = some w ∧
  ∀ F' H' v, Rel G F' e σ H' → Step e.t F e σ H F' e σ H' → WRel G F' e σ H' H w v → Q v H'
theorem Is.int_v {i : Int} (h : SlRel G F H (.d (.int i)) v) : v = .int i := by
  have h : Is G F (.int i) v := h
  rw [Is] at h; exact h
theorem Is.bl_v {i : Bool} (h : SlRel G F H (.d (.bl i)) v) : v = .bl i := by
  have h : Is G F (.bl i) v := h
  rw [Is] at h; exact h
theorem Is.non_v (h : SlRel G F H (.d .non) v) : v = .non := by
  have h : Is G F .non v := h
  rw [Is] at h; exact h
theorem Is.str_v {x : Str} (h : SlRel G F H (.d (.str x)) v) : v = .str x ∧ x.length ≤ 16777216 := by
  have h : Is G F (.str x) v := h
  rw [Is] at h; exact h

def opB : Bop → Operator → Bool
  | .add, .Add => true | .sub, .Sub => true | .mul, .Mult => true | .fdiv, .FloorDiv => true | .mod, .Mod => true | .pow, .Pow => true
  | _, _ => false

variable {X : Cx}
theorem div_ok {i j : Int} (h : 0 < j) (h2 : j < 18446744073709551616) : CDivW i j := by
  refine wide_div (b := 64) h ?_ (by decide) (by decide)
  have e : ((j.natAbs : Nat) : Int) = j := Int.natAbs_of_nonneg (Int.le_of_lt h)
  omega
theorem mul_ok {i j : Int} (h : (-18446744073709551616 < i ∧ i < 18446744073709551616) ∨ (-18446744073709551616 < j ∧ j < 18446744073709551616)) : CMul i j := by
  have e : (2 : Int) ^ 64 = 18446744073709551616 := by decide
  unfold CMul
  rw [e]; exact h
theorem pow_ok {i j : Int} (h : 0 ≤ j ∧ j ≤ 1000000 ∧ -4611686018427387904 < i ∧ i < 4611686018427387904) : CPow i j := by
  refine ⟨h.1, h.2.1, ?_⟩
  have e : (2 : Nat) ^ 64 = 18446744073709551616 := by decide
  rw [e]
  omega
theorem foldl_app : ∀ (l : List (Array Nat)) (acc : Array Nat), (l.foldl (· ++ ·) acc).toList = acc.toList ++ (l.map (·.toList)).flatten
  | [], acc => by simp
  | a :: r, acc => by
    rw [List.foldl_cons, foldl_app r]
    simp [List.append_assoc]
theorem repS_eq (x : Str) (n : Nat) : (⟨(List.replicate n x.cps).foldl (· ++ ·) #[]⟩ : Str) = repS x n := by
  unfold repS
  congr 1
  apply Array.ext'
  rw [foldl_app]
  simp
theorem str_ext {x y : Str} (h : x.cps.toList = y.cps.toList) : x = y := by
  cases x; cases y
  congr 1
  exact Array.ext' h
theorem op_mul_str : OpR X (binaryOp .Mult) (fun x y H Q => ∃ z j, x = .str z ∧ y = .int j ∧ (-4611686018427387904 < j ∧ j < 4611686018427387904 ∧ z.length * j.toNat ≤ 16777216) ∧ Q (.str (repS z j.toNat)) H) := by
  intro pins s σ H x y v u Q I rx ry h
  obtain ⟨z, j, rfl, rfl, ⟨h1, h2, h3⟩, q⟩ := h
  obtain ⟨t, rfl⟩ := rx
  obtain ⟨t', rfl⟩ := ry
  have hs : sizeLine = 16777216 := line_eq.symm
  refine PySem.P.mul_str (by
      have e1 : decide (j < -(2 ^ 63 : Int)) = false := decide_eq_false (by omega)
      have e2 : decide (j ≥ 2 ^ 63) = false := decide_eq_false (by omega)
      rw [e1, e2]; rfl) (fun n1 _ => ?_) (fun n1 _ => ?_) ?_
  · rw [show ((z.length : Int) > (2 ^ 63 - 1) / j) = ((2 ^ 63 - 1) / j < (z.length : Int)) from rfl, Int.ediv_lt_iff_lt_mul (by omega)]
    have e : ((z.length * j.toNat : Nat) : Int) = (z.length : Int) * j := by
      rw [Int.natCast_mul, Int.toNat_of_nonneg (by omega)]
    have h4 : ((z.length * j.toNat : Nat) : Int) ≤ 16777216 := Int.ofNat_le.mpr h3
    rw [e] at h4
    omega
  · show decide (z.length * j.toNat > sizeLine) = false
    rw [hs]
    exact decide_eq_false (Nat.not_lt.mpr h3)
  · by_cases n1 : j < 1
    · rw [if_pos n1]
      have e : repS z j.toNat = Str.empty := by
        have : j.toNat = 0 := by omega
        rw [this]; unfold repS; simp; rfl
      rw [e] at q
      refine ⟨?_, ?_⟩
      · decide
      · exact ⟨.str Str.empty, H, I.tok _, ⟨_, rfl⟩, q⟩
    · rw [if_neg n1]
      split
      · rename_i c
        have e : repS z j.toNat = z := by
          rcases (by simpa using c : j = 1 ∨ z.length = 0) with c | c
          · subst c
            apply str_ext; unfold repS; simp
          · apply str_ext
            have c' : z.cps.toList = [] := by
              have c2 : z.cps.toList.length = 0 := by simpa [Str.length] using c
              exact List.length_eq_zero_iff.mp c2
            unfold repS
            rw [c']; simp
        rw [e] at q
        exact ⟨.str z, H, I, ⟨_, rfl⟩, q⟩
      · rw [repS_eq]
        refine ⟨?_, ⟨.str _, H, I.tok _, ⟨_, rfl⟩, q⟩⟩
        show (repS z j.toNat).cps.size ≤ sizeLine
        rw [hs]
        unfold repS
        have h4 : z.length * j.toNat ≤ 16777216 := h3
        have e : z.cps.size = z.length := rfl
        simp only [List.size_toArray, List.length_flatten, List.map_replicate, List.sum_replicate_nat, Array.length_toList, e]
        rw [Nat.mul_comm]; exact h4
theorem op_bin {o : Bop} {po : Operator} (hG : G.K = X.K) (hb : opB o po = true) : OpR X (binaryOp po) (OK2 G (binop o)) := by
  intro pins st σ H x y v u Q I rx ry h
  obtain ⟨F, e, σ', s, t, w, R, hs, ht, hw, q⟩ := h
  have sc : ∀ {d : D} {v : V}, w = .d d → Is G F d v → Q v H := fun {d v} ew h => q F H v R .refl (by subst ew; exact h)
  unfold binop at hw
  split at hw
  · -- int + int
    rename_i i j
    cases po <;> try (exact absurd hb (by decide))
    cases hw
    exact op_add pins st σ H x y v u Q I rx ry ⟨i, j, Is.int_v hs, Is.int_v ht, sc rfl Is.int_of⟩
  · -- str + str
    rename_i xs ys
    cases po <;> try (exact absurd hb (by decide))
    split at hw
    · rename_i hl
      cases hw
      obtain ⟨ex, _⟩ := Is.str_v hs
      obtain ⟨ey, _⟩ := Is.str_v ht
      refine op_add_str pins st σ H x y v u Q I rx ry ⟨xs, ys, ex, ey, by rw [sizeLine_eq]; exact hl, sc rfl (Is.str_of ?_)⟩
      show (xs ++ ys).cps.size ≤ _
      have e2 : (xs ++ ys).cps.size = xs.length + ys.length := by
        show (xs.cps ++ ys.cps).size = _
        rw [Array.size_append]; rfl
      rw [e2]; exact hl
    · cases hw
  · -- tup + tup
    rename_i xs ys
    cases po <;> try (exact absurd hb (by decide))
    split at hw
    · rename_i hl
      cases hw
      obtain ⟨a, vs, ea, h1, h2⟩ := tup_of R hs
      obtain ⟨b, ws, eb, h3, h4⟩ := tup_of R ht
      rw [hG] at h1 h3
      refine op_catA pins st σ H x y v u Q I rx ry ⟨a, b, vs, ws, ea, eb, h1, h3, by rw [h2.length, h4.length, sizeLine_eq]; exact hl, fun z => ?_, fun _ z => ?_, fun _ _ p hp => ?_⟩
      · subst z
        have ez : xs = [] := List.length_eq_zero_iff.mp (by rw [← h2.length]; rfl)
        subst ez
        exact sc rfl (by subst eb; exact ht)
      · subst z
        have ez : ys = [] := List.length_eq_zero_iff.mp (by rw [← h4.length]; rfl)
        subst ez
        exact sc rfl (by subst ea; rw [List.append_nil]; exact hs)
      · obtain ⟨F', k1, k2, k3⟩ := R.alloc_tup hp (h2.app h4)
        exact q F' _ _ k1 k2 k3
    · cases hw
  · -- list + list
    cases po <;> try (exact absurd hb (by decide))
    split at hw
    · rename_i xs ys q1 q2
      split at hw
      · rename_i hl
        cases hw
        obtain ⟨a, vs, ea, h1, h2⟩ := lst_of R hs q1
        obtain ⟨b, ws, eb, h3, h4⟩ := lst_of R ht q2
        refine op_cat pins st σ H x y v u Q I rx ry ⟨a, b, vs, ws, ea, eb, h1, h3, ?_, fun p hp => ?_⟩
        · rw [h2.length, h4.length, sizeLine_eq]; exact hl
        · obtain ⟨k1, k2, k3⟩ := R.alloc_new hp (h2.app h4)
          exact q F _ _ k1 k2 k3
      · cases hw
    · cases hw
  · rename_i i j
    cases po <;> try (exact absurd hb (by decide))
    cases hw
    exact op_sub pins st σ H x y v u Q I rx ry ⟨i, j, Is.int_v hs, Is.int_v ht, sc rfl Is.int_of⟩
  · rename_i i j
    cases po <;> try (exact absurd hb (by decide))
    split at hw
    · rename_i hc
      cases hw
      exact op_mul pins st σ H x y v u Q I rx ry ⟨i, j, Is.int_v hs, Is.int_v ht, mul_ok hc, sc rfl Is.int_of⟩
    · cases hw
  · rename_i z j
    cases po <;> try (exact absurd hb (by decide))
    split at hw
    · rename_i hc
      cases hw
      refine op_mul_str pins st σ H x y v u Q I rx ry ⟨z, j, (Is.str_v hs).1, Is.int_v ht, hc, sc rfl (Is.str_of ?_)⟩
      show (repS z j.toNat).cps.size ≤ 16777216
      unfold repS
      have e : z.cps.size = z.length := rfl
      simp only [List.size_toArray, List.length_flatten, List.map_replicate, List.sum_replicate_nat, Array.length_toList, e]
      rw [Nat.mul_comm]; exact hc.2.2
    · cases hw
  · rename_i i j
    cases po <;> try (exact absurd hb (by decide))
    split at hw
    · rename_i hc
      cases hw
      exact op_fdivW pins st σ H x y v u Q I rx ry ⟨i, j, Is.int_v hs, Is.int_v ht, div_ok hc.1 hc.2, sc rfl Is.int_of⟩
    · cases hw
  · rename_i i j
    cases po <;> try (exact absurd hb (by decide))
    split at hw
    · rename_i hc
      cases hw
      exact op_mod pins st σ H x y v u Q I rx ry ⟨i, j, Is.int_v hs, Is.int_v ht, hc, sc rfl Is.int_of⟩
    · cases hw
  · rename_i i j
    cases po <;> try (exact absurd hb (by decide))
    split at hw
    · rename_i hc
      cases hw
      exact op_pow pins st σ H x y v u Q I rx ry ⟨i, j, Is.int_v hs, Is.int_v ht, pow_ok hc, sc rfl Is.int_of⟩
    · cases hw
  · cases hw

/-- a binary expression -/
theorem se_bin {o : Bop} {po : Operator} {a b : Expr} {ma mb : M W} {pos : Pos} {Wx : L2.St → KW D} (hG : G.K = X.K) (hb : opB o po = true) (ha : PE X a (RT G Wx ma)) (hb' : PE X b (RT G Wx mb)) :
    PE X (.BinOp a po b pos) (RT G Wx (bnd ma fun x => bnd mb fun y => bnd (rd x) fun s => bnd (rd y) fun t => optM (binop o s t))) := by
  refine PE.imp (pe_op (op_bin (G := G) hG hb) ha hb') fun σ H Q h => ?_
  obtain ⟨F, e, R, h⟩ := h
  refine RT.mono (Ex.rt R .refl rfl h) fun v H1 ⟨F1, e1, w1, R1, s1, a1, t1, r1, h1⟩ => ?_
  refine RT.mono (Ex.rt R1 a1 t1 h1) fun u H2 ⟨F2, e2, w2, R2, s2, a2, t2, r2, h2⟩ => ?_
  obtain ⟨sx, hx, h2⟩ := h2.rd R2 (r1.step R1 s2)
  obtain ⟨sy, hy, h2⟩ := h2.rd R2 r2
  obtain ⟨w, hw, h2⟩ := h2.optL
  exact ⟨F2, e2, σ, sx, sy, w, R2, hx, hy, hw, fun F' H' v R' S' r' => h2 F' H' R' (Step.to (A := ⟨F, e, H⟩) a2 t2 S') t2 v (r'.early fun a z => s1.th a (s2.th a z))⟩
end
end MV
/-! MVExp2: the rules of expressions, further. -/
namespace MV
open PySem PySem.Spec L2

theorem bnd_assoc {α β γ : Type} (m : M α) (f : α → M β) (g : β → M γ) : bnd (bnd m f) g = bnd m fun a => bnd (f a) g := by
  funext e
  unfold bnd
  cases m e <;> rfl
theorem bnd_ret {α β : Type} (a : α) (f : α → M β) : bnd (ret a) f = f a := rfl

section
variable {G : Gx} {F F' : Fz} {e e' : Env} {σ : L2.St} {H H' : Hp} {s t : Sl} {v w : V} {X : Cx} {Wx : L2.St → KW D} {m ma mb mc : M W} {a b c x y : Expr} {pos : Pos} {es : List Expr}

/-! ### names, constants -/
theorem se_var {i : Nat} {n : Str} {I : Info} {P : Phi} (hN : X.N[i]? = some n) (hv : Vis X.env.scope n) (hd : (n == ("__debug__" : Str)) = false) (hcd : (n == ("__classdict__" : Str)) = false) : PE X (.Name n pos) (RT G Wx (ev I P (.var i))) := by
  refine PE.imp (pe_var hN hv hd hcd) fun σ H Q h => ?_
  obtain ⟨F, e, R, h⟩ := h
  have h' := h
  unfold Ex at h
  rw [ev] at h
  dsimp only at h
  cases q : e.get i with
  | none => rw [q] at h; exact h.elim
  | some sl =>
    rw [q] at h
    cases sl with
    | d z =>
      obtain ⟨v, h1, h2⟩ := R.dat i z q
      exact ⟨v, h1, h F H R .refl rfl v h2⟩
    | own c =>
      obtain ⟨a, h1, h2⟩ := R.own i c q
      exact ⟨_, h1, h F H R .refl rfl _ h1⟩
theorem se_val {d : D} {u : V} (h : PE X x (tC u)) (k : ∀ F : Fz, Is G F d u) : PE X x (RT G Wx (ret (.d d))) := by
  refine PE.imp h fun σ H Q h => ?_
  obtain ⟨F, e, R, h⟩ := h
  exact h F H R .refl rfl u (k F)

/-! ### argument lists, displays -/
def RA (G : Gx) (Wx : L2.St → KW D) (m : M (List D)) : TA := fun σ H Q => ∃ F e, Rel G F e σ H ∧ Ex G (Wx σ) ⟨F, e, H⟩ σ m e (fun xs F' e' H' => ∀ vs, IsL G F' xs vs → Q vs H')
theorem starEach_of {env : PySem.Env} (h : ∀ z p, x ≠ .Starred z p) : starEach (x :: es) env = (false, eval x env) :: starEach es env := by
  cases x <;> first | rfl | exact absurd rfl (h _ _)
theorem sa_nil : PA X [] (RA G Wx (ret [])) := PA.imp pa_nil fun σ H Q h => by
  obtain ⟨F, e, R, h⟩ := h
  exact h F H R .refl rfl [] IsL.nil
theorem sa_cons {mr : M (List D)} (hx : PE X x (RT G Wx m)) (hr : PA X es (RA G Wx mr)) (hs : ∀ z p, x ≠ .Starred z p) : PA X (x :: es) (RA G Wx (bnd m fun w => bnd (frz w) fun d => bnd mr fun ds => ret (d :: ds))) := by
  refine PA.imp (pa_cons hx hr (starEach_of hs)) fun σ H Q h => ?_
  obtain ⟨F, e, R, h⟩ := h
  refine RT.mono (Ex.rt R .refl rfl h) fun v H1 ⟨F1, e1, w, R1, s1, a1, t1, r1, h1⟩ => ?_
  obtain ⟨F2, e2, d, R2, a2, t2, i2, h2, l2⟩ := h1.frz R1 a1 t1 r1
  refine ⟨F2, e2, R2, (h2.bnd.later (A' := ⟨F2, e2, H1⟩) a2 t2).mono fun ds F3 e3 H3 R3 s3 t3 h3 vs i3 => ?_⟩
  have t3' : e3.t = e2.t := t3
  exact Ex.ret h3 F3 H3 R3 (Step.to (A := ⟨F, e, H⟩) a2 t2 s3) (t3'.trans t2) (v :: vs) (IsL.cons (i2.mono (R2.fle s3)) i3)
theorem Ex.res {α : Type} {Wd : KW D} {A : Anch} {m : M α} {K : KW α} (h : Ex G Wd A σ m e K) : Ex G Wd A σ m e (fun a F' e' H' => m e = .ok a e' ∧ K a F' e' H') := by
  unfold Ex at h ⊢
  cases q : m e with
  | ok a e1 => rw [q] at h; exact fun F1 H1 R1 s1 t1 => ⟨rfl, h F1 H1 R1 s1 t1⟩
  | exc a e1 => rw [q] at h; exact h
  | stuck => rw [q] at h; exact h
theorem se_tup {mr : M (List D)} {k : Nat} (h : PA X es (RA G Wx mr)) (hl : es.length ≤ 16777216) (hm : ∀ e xs e', mr e = .ok xs e' → xs.length = es.length) : PE X (.Tuple es k pos) (RT G Wx (bnd mr fun xs => ret (.d (.tup xs)))) := by
  refine PE.imp (pe_tup h) fun σ H Q h => ?_
  obtain ⟨F, e, R, h⟩ := h
  refine ⟨F, e, R, h.bnd.res.mono fun xs F1 e1 H1 R1 s1 t1 ⟨q, h1⟩ vs i1 => ?_⟩
  refine ⟨by rw [i1.length, hm e xs e1 q, sizeLine_eq]; exact hl, fun p hp => ?_⟩
  obtain ⟨F', k1, k2, k3⟩ := R1.alloc_tup hp i1
  exact Ex.ret h1 F' _ k1 (Step.to s1 t1 k2) t1 _ k3
theorem se_lst {mr : M (List D)} (h : PA X es (RA G Wx mr)) (hl : es.length ≤ 16777216) (hm : ∀ e xs e', mr e = .ok xs e' → xs.length = es.length) : PE X (.List es pos) (RT G Wx (bnd mr fun xs => ret (.new (.lst xs)))) := by
  refine PE.imp (pe_lst h) fun σ H Q h => ?_
  obtain ⟨F, e, R, h⟩ := h
  refine ⟨F, e, R, h.bnd.res.mono fun xs F1 e1 H1 R1 s1 t1 ⟨q, h1⟩ vs i1 => ?_⟩
  refine ⟨by rw [i1.length, hm e xs e1 q, sizeLine_eq]; exact hl, fun p hp => ?_⟩
  obtain ⟨k1, k2, k3⟩ := R1.alloc_new hp i1
  have s1' : Step e.t F e σ H F1 e1 σ H1 := s1
  exact Ex.ret h1 F1 _ k1 (Step.to s1 t1 k2) t1 _ (k3.early fun z hz => s1'.th z hz)
theorem evs_length {I : Info} {P : Phi} : ∀ (ms : List E) (e : Env) (xs : List D) (e' : Env), evs I P ms e = .ok xs e' → xs.length = ms.length
  | [], e, xs, e', h => by
    rw [evs] at h
    cases h; rfl
  | m :: ms, e, xs, e', h => by
    rw [evs] at h
    unfold bnd at h
    cases q : ev I P m e with
    | ok w e1 =>
      rw [q] at h
      dsimp only at h
      cases q1 : frz w e1 with
      | ok d e2 =>
        rw [q1] at h
        dsimp only at h
        cases q2 : evs I P ms e2 with
        | ok ds e3 =>
          rw [q2] at h
          cases h
          simp [evs_length ms e2 ds _ q2]
        | exc _ _ => rw [q2] at h; cases h
        | stuck => rw [q2] at h; cases h
      | exc _ _ => rw [q1] at h; cases h
      | stuck => rw [q1] at h; cases h
    | exc _ _ => rw [q] at h; cases h
    | stuck => rw [q] at h; cases h

/-! ### truth, tests -/
def RTT (G : Gx) (Wx : L2.St → KW D) (m : M W) : TT := fun σ H Q => ∃ F e, Rel G F e σ H ∧ Ex G (Wx σ) ⟨F, e, H⟩ σ (bnd m tr) e (fun k F' e' H' => Q k H')
theorem tru_of {k : Bool} (R : Rel G F e σ H) (h : SlRel G F H s v) (q : truth s = some k) : TruV G.K v H k := by
  cases s with
  | d z =>
    cases z with
    | non => cases q; rw [Is.non_v h]; rfl
    | bl z => cases q; rw [Is.bl_v h]; rfl
    | int z => cases q; rw [Is.int_v h]; rfl
    | str z =>
      cases q
      obtain ⟨e1, e2⟩ := Is.str_v h
      rw [e1]
      exact ⟨by rw [sizeLine_eq]; exact e2, rfl⟩
    | tup xs =>
      cases q
      obtain ⟨a, vs, e1, h1, h2⟩ := tup_of R h
      rw [e1]
      refine .inr (.inl ⟨vs, h1, ?_⟩)
      have := h2.length
      cases vs <;> cases xs <;> simp_all
    | lst t xs =>
      cases q
      obtain ⟨a, vs, e1, h1, h2⟩ := lst_of R h rfl
      rw [e1]
      refine .inl ⟨vs, SqL.of h1, ?_⟩
      have := h2.length
      cases vs <;> cases xs <;> simp_all
    | obj _ _ _ => cases q
    | scr _ => cases q
  | own c =>
    cases c with
    | obj _ _ _ => cases q
    | lst xs =>
      cases q
      obtain ⟨a, vs, e1, h1, h2⟩ := lst_of R h rfl
      rw [e1]
      refine .inl ⟨vs, SqL.of h1, ?_⟩
      have := h2.length
      cases vs <;> cases xs <;> simp_all
theorem Ex.tr {A : Anch} {β : Type} {K : KW β} {H0 : Hp} {Wd : KW D} {wv : W} {f : Bool → M β} (R : Rel G F e σ H) (r : WRel G F e σ H H0 wv v) (h : Ex G Wd A σ (MV.bnd (MV.tr wv) f) e K) : ∃ k, TruV G.K v H k ∧ Ex G Wd A σ (f k) e K := by
  unfold MV.tr at h
  rw [bnd_assoc] at h
  obtain ⟨sl, hs, h⟩ := h.rd R r
  obtain ⟨k, hk, h⟩ := h.opt
  exact ⟨k, tru_of R hs hk, h⟩
/-- a test by its value -/
theorem RTT.rt {Q : Bool → Hp → Prop} (hG : G.K = X.K) (h : RTT G Wx m σ H Q) : RT G Wx m σ H (fun v H' => ∃ k, TruV X.K v H' k ∧ Q k H') := by
  obtain ⟨F, e, R, h⟩ := h
  refine RT.mono (Ex.rt R .refl rfl h) fun v H1 ⟨F1, e1, w, R1, s1, a1, t1, r1, h1⟩ => ?_
  have h2 : Ex G (Wx σ) ⟨F, e, H⟩ σ (bnd (MV.tr w) ret) e1 (fun k F' e' H' => Q k H') := by
    have : bnd (MV.tr w) ret = MV.tr w := by
      funext e
      unfold bnd ret
      cases MV.tr w e <;> rfl
    rw [this]; exact h1
  obtain ⟨k, hk, h3⟩ := h2.tr R1 r1
  exact ⟨k, by rw [← hG]; exact hk, Ex.ret h3 F1 H1 R1 a1 t1⟩
def plainT : Expr → Bool
  | .UnaryOp .Not _ _ => false
  | .BoolOp _ _ _ => false
  | .IfExp _ _ _ _ => false
  | .Compare _ _ _ _ => false
  | _ => true
theorem plain_isTrue {env : PySem.Env} (h : plainT x = true) : ∀ whole, isTrue x env whole = (do let v ← whole; standAt x.pos; holding [v] (truthy v)) := by
  intro whole
  cases x with
  | UnaryOp op z p => cases op <;> first | rfl | exact nomatch (show false = true from h)
  | BoolOp _ _ _ => exact nomatch (show false = true from h)
  | IfExp _ _ _ _ => exact nomatch (show false = true from h)
  | Compare _ _ _ _ => exact nomatch (show false = true from h)
  | _ => rfl
theorem st_plain (hG : G.K = X.K) (h : PE X x (RT G Wx m)) (hp : plainT x = true) : PT X x (RTT G Wx m) :=
  PT.imp (pt_truth h (plain_isTrue hp)) fun σ H Q h => RTT.rt hG h

/-! ### not, and, or, if -/
theorem se_not (hG : G.K = X.K) (h : PE X x (RT G Wx m)) : PE X (.UnaryOp .Not x pos) (RT G Wx (bnd m fun z => bnd (MV.tr z) fun k => ret (.d (.bl (!k))))) := by
  refine PE.imp (pe_notT h) fun σ H Q h => ?_
  obtain ⟨F, e, R, h⟩ := h
  refine RT.mono (Ex.rt R .refl rfl h) fun v H1 ⟨F1, e1, w, R1, s1, a1, t1, r1, h1⟩ => ?_
  obtain ⟨k, hk, h2⟩ := h1.tr R1 r1
  exact ⟨k, by rw [← hG]; exact hk, Ex.ret h2 F1 H1 R1 a1 t1 (.bl (!k)) (show Is G F1 (.bl (!k)) (.bl (!k)) from Is.bl_of)⟩
theorem tr_bl (k : Bool) : MV.tr (.d (.bl k)) = ret k := rfl
theorem st_not (h : PT X x (RTT G Wx m)) : PT X (.UnaryOp .Not x pos) (RTT G Wx (bnd m fun z => bnd (MV.tr z) fun k => ret (.d (.bl (!k))))) := by
  refine PT.imp (pt_not h) fun σ H Q h => ?_
  obtain ⟨F, e, R, h⟩ := h
  refine ⟨F, e, R, ?_⟩
  rw [bnd_assoc] at h
  have e1 : (bnd m fun a => bnd (bnd (MV.tr a) fun k => ret (.d (.bl (!k)))) MV.tr) = bnd (bnd m MV.tr) fun k => ret (!k) := by
    rw [bnd_assoc]
    congr 1
    funext a
    rw [bnd_assoc]
    rfl
  rw [e1] at h
  exact h.bnd.mono fun k F1 e1 H1 R1 s1 t1 h1 => Ex.ret h1 F1 H1 R1 s1 t1
/-- and, or, as values -/
def andM (ma mb : M W) : M W := bnd ma fun x => bnd (MV.tr x) fun k => if k = true then mb else ret x
def orM (ma mb : M W) : M W := bnd ma fun x => bnd (MV.tr x) fun k => if k = true then ret x else mb
theorem RT.here {A : Anch} {K : KW W} (R : Rel G F e σ H) (s : A.to σ F e H) (t : e.t = A.e.t) (h : Ex G (Wx σ) A σ m e K) :
    RT G Wx m σ H (fun v H1 => ∃ F1 e1 w, Rel G F1 e1 σ H1 ∧ Step e.t F e σ H F1 e1 σ H1 ∧ A.to σ F1 e1 H1 ∧ e1.t = A.e.t ∧ WRel G F1 e1 σ H1 H w v ∧ K w F1 e1 H1) := Ex.rtL R s t h
theorem se_and (hG : G.K = X.K) (ha : PE X a (RT G Wx ma)) (hb : PE X (.BoolOp .And (b :: es) pos) (RT G Wx mb)) : PE X (.BoolOp .And (a :: b :: es) pos) (RT G Wx (andM ma mb)) := by
  refine PE.imp (pe_andT ha hb) fun σ H Q h => ?_
  obtain ⟨F, e, R, h⟩ := h
  refine RT.mono (Ex.rt R .refl rfl h) fun v H1 ⟨F1, e1, w, R1, s1, a1, t1, r1, h1⟩ => ?_
  obtain ⟨k, hk, h2⟩ := h1.tr R1 r1
  refine ⟨k, by rw [← hG]; exact hk, ?_⟩
  cases k with
  | false =>
    rw [if_neg Bool.false_ne_true] at h2 ⊢
    exact Ex.ret h2 F1 H1 R1 a1 t1 v r1
  | true =>
    rw [if_pos rfl] at h2 ⊢
    refine RT.mono (RT.here R1 a1 t1 h2) fun u H2 ⟨F2, e2, w2, R2, s2, a2, t2, r2, h3⟩ => h3 u (r2.early fun z hz => s1.th z hz)
theorem se_or (hG : G.K = X.K) (ha : PE X a (RT G Wx ma)) (hb : PE X (.BoolOp .Or (b :: es) pos) (RT G Wx mb)) : PE X (.BoolOp .Or (a :: b :: es) pos) (RT G Wx (orM ma mb)) := by
  refine PE.imp (pe_orT ha hb) fun σ H Q h => ?_
  obtain ⟨F, e, R, h⟩ := h
  refine RT.mono (Ex.rt R .refl rfl h) fun v H1 ⟨F1, e1, w, R1, s1, a1, t1, r1, h1⟩ => ?_
  obtain ⟨k, hk, h2⟩ := h1.tr R1 r1
  refine ⟨k, by rw [← hG]; exact hk, ?_⟩
  cases k with
  | true =>
    rw [if_pos rfl] at h2 ⊢
    exact Ex.ret h2 F1 H1 R1 a1 t1 v r1
  | false =>
    rw [if_neg Bool.false_ne_true] at h2 ⊢
    refine RT.mono (RT.here R1 a1 t1 h2) fun u H2 ⟨F2, e2, w2, R2, s2, a2, t2, r2, h3⟩ => h3 u (r2.early fun z hz => s1.th z hz)
theorem PW.imp {t t' : TT} (h : PW X x t) (k : ∀ σ H Q, t' σ H Q → t σ H Q) : PW X x t' := ⟨fun wh pins s σ H Q I h' => h.run wh pins s σ H Q I (k σ H Q h')⟩
/-- a test's reading, a part of a longer one -/
theorem RTT.here {A : Anch} {β : Type} {f : Bool → M β} {K : KW β} (R : Rel G F e σ H) (s : A.to σ F e H) (t : e.t = A.e.t) (h : Ex G (Wx σ) A σ (bnd (bnd m MV.tr) f) e K) :
    RTT G Wx m σ H (fun k H1 => ∃ F1 e1, Rel G F1 e1 σ H1 ∧ Step e.t F e σ H F1 e1 σ H1 ∧ A.to σ F1 e1 H1 ∧ e1.t = A.e.t ∧ Ex G (Wx σ) A σ (f k) e1 K) := by
  refine ⟨F, e, R, (h.bnd.later (A' := ⟨F, e, H⟩) s t).mono fun k F1 e1 H1 R1 s1 t1 h1 => ?_⟩
  have s1' : Step e.t F e σ H F1 e1 σ H1 := s1
  have t1' : e1.t = e.t := t1
  exact ⟨F1, e1, R1, s1', Step.to s t s1', t1'.trans t, h1⟩
theorem RTT.mono {Q Q' : Bool → Hp → Prop} (h : RTT G Wx m σ H Q) (k : ∀ b H', Q b H' → Q' b H') : RTT G Wx m σ H Q' := by
  obtain ⟨F, e, R, h⟩ := h
  exact ⟨F, e, R, h.mono fun b F1 e1 H1 _ _ _ h1 => k b H1 h1⟩
theorem andM_tr (ma mb : M W) : bnd (andM ma mb) MV.tr = bnd (bnd ma MV.tr) fun k => if k = true then bnd mb MV.tr else ret false := by
  unfold andM
  rw [bnd_assoc, bnd_assoc]
  congr 1
  funext x
  rw [bnd_assoc]
  funext e
  cases q : MV.tr x e with
  | exc z e1 => unfold bnd; rw [q]
  | stuck => unfold bnd; rw [q]
  | ok k e1 =>
    unfold bnd
    rw [q]
    dsimp only
    cases k with
    | true => rfl
    | false =>
      rw [if_neg Bool.false_ne_true, if_neg Bool.false_ne_true]
      show MV.tr x e1 = ret false e1
      have e2 : e1 = e := by
        unfold MV.tr bnd at q
        cases q3 : MV.rd x e with
        | ok sl e3 =>
          rw [q3] at q
          dsimp only at q
          have e4 : e3 = e := by
            cases x with
            | d _ => cases q3; rfl
            | new _ => cases q3; rfl
            | at_ i =>
              unfold MV.rd at q3
              dsimp only at q3
              cases q5 : e.get i with
              | none => rw [q5] at q3; cases q3
              | some _ => rw [q5] at q3; cases q3; rfl
          cases q6 : truth sl with
          | none => rw [q6] at q; cases q
          | some k => rw [q6] at q; cases q; exact e4
        | exc _ _ => rw [q3] at q; cases q
        | stuck => rw [q3] at q; cases q
      rw [e2] at q ⊢
      exact q
theorem orM_tr (ma mb : M W) : bnd (orM ma mb) MV.tr = bnd (bnd ma MV.tr) fun k => if k = true then ret true else bnd mb MV.tr := by
  unfold orM
  rw [bnd_assoc, bnd_assoc]
  congr 1
  funext x
  rw [bnd_assoc]
  funext e
  cases q : MV.tr x e with
  | exc z e1 => unfold bnd; rw [q]
  | stuck => unfold bnd; rw [q]
  | ok k e1 =>
    unfold bnd
    rw [q]
    dsimp only
    cases k with
    | false => rfl
    | true =>
      rw [if_pos rfl, if_pos rfl]
      show MV.tr x e1 = ret true e1
      have e2 : e1 = e := by
        unfold MV.tr bnd at q
        cases q3 : MV.rd x e with
        | ok sl e3 =>
          rw [q3] at q
          dsimp only at q
          have e4 : e3 = e := by
            cases x with
            | d _ => cases q3; rfl
            | new _ => cases q3; rfl
            | at_ i =>
              unfold MV.rd at q3
              dsimp only at q3
              cases q5 : e.get i with
              | none => rw [q5] at q3; cases q3
              | some _ => rw [q5] at q3; cases q3; rfl
          cases q6 : truth sl with
          | none => rw [q6] at q; cases q
          | some k => rw [q6] at q; cases q; exact e4
        | exc _ _ => rw [q3] at q; cases q
        | stuck => rw [q3] at q; cases q
      rw [e2] at q ⊢
      exact q
theorem sw_and (ha : PT X a (RTT G Wx ma)) (hb : PW X (.BoolOp .And (b :: es) pos) (RTT G Wx mb)) : PW X (.BoolOp .And (a :: b :: es) pos) (RTT G Wx (andM ma mb)) := by
  refine PW.imp (pw_and ha hb) fun σ H Q h => ?_
  obtain ⟨F, e, R, h⟩ := h
  rw [andM_tr] at h
  refine RTT.mono (RTT.here R .refl rfl h) fun k H1 ⟨F1, e1, R1, s1, a1, t1, h1⟩ => ?_
  cases k with
  | false =>
    rw [if_neg Bool.false_ne_true] at h1 ⊢
    exact Ex.ret h1 F1 H1 R1 a1 t1
  | true =>
    rw [if_pos rfl] at h1 ⊢
    exact ⟨F1, e1, R1, h1.later a1 t1⟩
theorem sw_or (ha : PT X a (RTT G Wx ma)) (hb : PW X (.BoolOp .Or (b :: es) pos) (RTT G Wx mb)) : PW X (.BoolOp .Or (a :: b :: es) pos) (RTT G Wx (orM ma mb)) := by
  refine PW.imp (pw_or ha hb) fun σ H Q h => ?_
  obtain ⟨F, e, R, h⟩ := h
  rw [orM_tr] at h
  refine RTT.mono (RTT.here R .refl rfl h) fun k H1 ⟨F1, e1, R1, s1, a1, t1, h1⟩ => ?_
  cases k with
  | true =>
    rw [if_pos rfl] at h1 ⊢
    exact Ex.ret h1 F1 H1 R1 a1 t1
  | false =>
    rw [if_neg Bool.false_ne_true] at h1 ⊢
    exact ⟨F1, e1, R1, h1.later a1 t1⟩
theorem se_ite (hc : PT X c (RTT G Wx mc)) (ha : PE X a (RT G Wx ma)) (hb : PE X b (RT G Wx mb)) : PE X (.IfExp c a b pos) (RT G Wx (bnd mc fun z => bnd (MV.tr z) fun k => if k = true then ma else mb)) := by
  refine PE.imp (pe_ifExp hc ha hb) fun σ H Q h => ?_
  obtain ⟨F, e, R, h⟩ := h
  have e1 : (bnd mc fun z => bnd (MV.tr z) fun k => if k = true then ma else mb) = bnd (bnd mc MV.tr) fun k => if k = true then ma else mb := (bnd_assoc _ _ _).symm
  rw [e1] at h
  refine RTT.mono (RTT.here R .refl rfl h) fun k H1 ⟨F1, e1, R1, s1, a1, t1, h1⟩ => ?_
  cases k with
  | true =>
    rw [if_pos rfl] at h1 ⊢
    exact RT.mono (RT.here R1 a1 t1 h1) fun u H2 ⟨F2, e2, w2, R2, s2, a2, t2, r2, h3⟩ => h3 u (r2.early fun z hz => s1.th z hz)
  | false =>
    rw [if_neg Bool.false_ne_true] at h1 ⊢
    exact RT.mono (RT.here R1 a1 t1 h1) fun u H2 ⟨F2, e2, w2, R2, s2, a2, t2, r2, h3⟩ => h3 u (r2.early fun z hz => s1.th z hz)
end
end MV
/-! MVExp3: comparisons, subscripts, built-ins. -/
namespace MV
open PySem PySem.Spec L2

section
variable {G : Gx} {F F' : Fz} {e e' : Env} {σ : L2.St} {H H' : Hp} {s t : Sl} {v w : V} {X : Cx} {Wx : L2.St → KW D} {m ma mb mc : M W} {a b c x y : Expr} {pos : Pos} {es : List Expr}

/-! ### data -/
mutual
theorem dp_of (sub : ∀ a o, F.h a = some o → H a = some o) : ∀ (d : D) (v : V), isPy d = true → Is G F d v → Dp G.K H v (py d)
  | .non, v, _, h => by rw [Is] at h; subst h; exact .non
  | .bl b, v, _, h => by rw [Is] at h; subst h; exact .bl b
  | .int i, v, _, h => by rw [Is] at h; subst h; exact .int i
  | .str z, v, _, h => by rw [Is] at h; obtain ⟨rfl, _⟩ := h; exact .str z
  | .tup xs, v, q, h => by
    rw [Is] at h
    obtain ⟨a, vs, rfl, h1, h2⟩ := h
    exact .tup (SqT.le sub h1) (dpL_of sub xs vs q h2)
  | .lst t xs, v, q, h => by
    rw [Is] at h
    obtain ⟨a, vs, rfl, h1, _, h2⟩ := h
    exact .lst (SqL.of (sub _ _ h1)) (dpL_of sub xs vs q h2)
  | .obj _ _ _, v, q, _ => nomatch (show false = true from q)
  | .scr _, v, q, _ => nomatch (show false = true from q)
theorem dpL_of (sub : ∀ a o, F.h a = some o → H a = some o) : ∀ (xs : List D) (vs : List V), isPyL xs = true → IsL G F xs vs → DpAll G.K H vs (pyL xs)
  | [], vs, _, h => by rw [IsL] at h; subst h; exact .nil
  | x :: xs, vs, q, h => by
    rw [IsL] at h
    obtain ⟨v, r, rfl, h1, h2⟩ := h
    rw [isPyL] at q
    obtain ⟨q1, q2⟩ := Bool.and_eq_true_iff.mp q
    exact .cons (dp_of sub x v q1 h1) (dpL_of sub xs r q2 h2)
end
theorem dpS_of (R : Rel G F e σ H) (h : SlRel G F H s v) (q : s.isPy = true) : Dp G.K H v s.py := by
  cases s with
  | d z => exact dp_of R.sub z v q h
  | own c =>
    cases c with
    | obj _ _ _ => exact nomatch (show false = true from q)
    | lst xs =>
      obtain ⟨a, e1, _, vs, h1, h2⟩ := h
      subst e1
      exact .lst (SqL.of h1) (dpL_of R.sub xs vs q h2)
def OKb (G : Gx) (o : Sl → Sl → Option Bool) : R2 := fun x y H Q => ∃ F e σ s t k, Rel G F e σ H ∧ SlRel G F H s x ∧ SlRel G F H t y ∧ o s t = some k ∧ Q (.bl k) H
def copB : Cop → CmpOp → Bool
  | .eq, .Eq => true | .ne, .NotEq => true | .lt, .Lt => true | .le, .LtE => true | .gt, .Gt => true | .ge, .GtE => true | .isin, .In => true | .notin, .NotIn => true
  | _, _ => false
theorem ints2_of {p : Int × Int} (h : SlRel G F H s v) (h' : SlRel G F H t w) (q : ints2 s t = some p) : v = .int p.1 ∧ w = .int p.2 := by
  unfold ints2 at q
  split at q
  · cases q
    exact ⟨Is.int_v h, Is.int_v h'⟩
  · cases q
theorem flat_v {d : D} (f : flatD d = true) (h : Is G F d v) : flatV v = true ∧ ∀ {d' : D} {v' : V}, flatD d' = true → Is G F d' v' → eqV v v' = PyData.eqv (py d) (py d') := by
  cases d with
  | non =>
    rw [Is] at h; subst h
    refine ⟨rfl, fun {d' v'} f' h' => ?_⟩
    cases d' <;> first | (exact nomatch (show false = true from f')) | skip
    all_goals (rw [Is] at h'; first | (subst h'; rfl) | (obtain ⟨rfl, _⟩ := h'; rfl))
  | bl b =>
    rw [Is] at h; subst h
    refine ⟨rfl, fun {d' v'} f' h' => ?_⟩
    cases d' <;> first | (exact nomatch (show false = true from f')) | skip
    all_goals (rw [Is] at h'; first | (subst h'; rfl) | (obtain ⟨rfl, _⟩ := h'; rfl))
  | int i =>
    rw [Is] at h; subst h
    refine ⟨rfl, fun {d' v'} f' h' => ?_⟩
    cases d' <;> first | (exact nomatch (show false = true from f')) | skip
    all_goals (rw [Is] at h'; first | (subst h'; rfl) | (obtain ⟨rfl, _⟩ := h'; rfl))
  | str i =>
    rw [Is] at h; obtain ⟨rfl, _⟩ := h
    refine ⟨rfl, fun {d' v'} f' h' => ?_⟩
    cases d' <;> first | (exact nomatch (show false = true from f')) | skip
    all_goals (rw [Is] at h'; first | (subst h'; rfl) | (obtain ⟨rfl, _⟩ := h'; rfl))
  | _ => exact nomatch (show false = true from f)

theorem flatL_v : ∀ {xs : List D} {vs : List V}, xs.all flatD = true → IsL G F xs vs → vs.all flatV = true ∧ ∀ {d : D} {z : V}, flatD d = true → Is G F d z → inV z vs = inD d xs
  | [], vs, _, h => by rw [IsL] at h; subst h; exact ⟨rfl, fun _ _ => rfl⟩
  | x :: xs, vs, f, h => by
    rw [IsL] at h
    obtain ⟨v, r, rfl, h1, h2⟩ := h
    rw [List.all_cons] at f
    obtain ⟨f1, f2⟩ := Bool.and_eq_true_iff.mp f
    obtain ⟨k1, k2⟩ := flatL_v f2 h2
    obtain ⟨k3, k4⟩ := flat_v f1 h1
    refine ⟨by rw [List.all_cons, k3, k1]; rfl, fun {d z} fd hd => ?_⟩
    have e := k2 fd hd
    unfold inV inD at e ⊢
    rw [List.any_cons, List.any_cons, e, k4 fd hd]
theorem seqV {v0 : Addr} {vs : List V} (h : (H v0 = some (HO.lst vs)) ∨ SqT G.K H v0 vs) : SqL G.K H v0 vs ∨ SqT G.K H v0 vs := h.imp SqL.of id
theorem op_cmp {o : Cop} {po : CmpOp} (hG : G.K = X.K) (hu : X.A.units + 64 < cLine) (hb : copB o po = true) : OpR X (compareOp po) (OKb G (cmpop o)) := by
  intro pins st σ H x y v u Q I rx ry h
  obtain ⟨F, e, σ', s, t, k, R, hs, ht, hk, q⟩ := h
  cases o with
  | eq =>
    cases po <;> try (exact absurd hb (by decide))
    have hk : (if (s.isPy && t.isPy && SeqAt.shaped s.py && SeqAt.shaped t.py) = true then some (PyData.eqv s.py t.py) else none) = some k := hk
    split at hk
    · rename_i c
      cases hk
      obtain ⟨c, c4⟩ := Bool.and_eq_true_iff.mp c
      obtain ⟨c, c3⟩ := Bool.and_eq_true_iff.mp c
      obtain ⟨c1, c2⟩ := Bool.and_eq_true_iff.mp c
      exact op_eqD hu pins st σ H x y v u Q I rx ry ⟨_, _, hG ▸ dpS_of R hs c1, hG ▸ dpS_of R ht c2, c3, c4, q⟩
    · cases hk
  | ne =>
    cases po <;> try (exact absurd hb (by decide))
    have hk : (if (s.isPy && t.isPy && SeqAt.shaped s.py && SeqAt.shaped t.py) = true then some (!PyData.eqv s.py t.py) else none) = some k := hk
    split at hk
    · rename_i c
      cases hk
      obtain ⟨c, c4⟩ := Bool.and_eq_true_iff.mp c
      obtain ⟨c, c3⟩ := Bool.and_eq_true_iff.mp c
      obtain ⟨c1, c2⟩ := Bool.and_eq_true_iff.mp c
      exact op_neD hu pins st σ H x y v u Q I rx ry ⟨_, _, hG ▸ dpS_of R hs c1, hG ▸ dpS_of R ht c2, c3, c4, q⟩
    · cases hk
  | lt =>
    cases po <;> try (exact absurd hb (by decide))
    obtain ⟨p, hp, hk⟩ := Option.map_eq_some_iff.mp (show (ints2 s t).map _ = some k from hk)
    obtain ⟨e1, e2⟩ := ints2_of hs ht hp
    exact op_lt pins st σ H x y v u Q I rx ry ⟨_, _, e1, e2, by subst hk; exact q⟩
  | le =>
    cases po <;> try (exact absurd hb (by decide))
    obtain ⟨p, hp, hk⟩ := Option.map_eq_some_iff.mp (show (ints2 s t).map _ = some k from hk)
    obtain ⟨e1, e2⟩ := ints2_of hs ht hp
    exact op_le pins st σ H x y v u Q I rx ry ⟨_, _, e1, e2, by subst hk; exact q⟩
  | gt =>
    cases po <;> try (exact absurd hb (by decide))
    obtain ⟨p, hp, hk⟩ := Option.map_eq_some_iff.mp (show (ints2 s t).map _ = some k from hk)
    obtain ⟨e1, e2⟩ := ints2_of hs ht hp
    exact op_gt pins st σ H x y v u Q I rx ry ⟨_, _, e1, e2, by subst hk; exact q⟩
  | ge =>
    cases po <;> try (exact absurd hb (by decide))
    obtain ⟨p, hp, hk⟩ := Option.map_eq_some_iff.mp (show (ints2 s t).map _ = some k from hk)
    obtain ⟨e1, e2⟩ := ints2_of hs ht hp
    exact op_ge pins st σ H x y v u Q I rx ry ⟨_, _, e1, e2, by subst hk; exact q⟩
  | isin =>
    cases po <;> try (exact absurd hb (by decide))
    unfold cmpop at hk
    dsimp only at hk
    split at hk
    · cases hk
      exact op_in_str pins st σ H x y v u Q I rx ry ⟨_, _, (Is.str_v hs).1, (Is.str_v ht).1, q⟩
    · rename_i z _
      split at hk
      · rename_i ys hy
        split at hk
        · rename_i c
          cases hk
          obtain ⟨c1, c2⟩ := Bool.and_eq_true_iff.mp c
          obtain ⟨a, vs, ea, h1, h2⟩ := seq_of R ht hy
          obtain ⟨k1, k2⟩ := flatL_v c2 h2
          refine op_in_seq pins st σ H x y v u Q I rx ry ⟨a, vs, ea, hG ▸ seqV h1, (flat_v c1 hs).1, k1, ?_⟩
          rw [if_neg Bool.false_ne_true, k2 c1 hs]; exact q
        · cases hk
      · cases hk
    · cases hk
  | notin =>
    cases po <;> try (exact absurd hb (by decide))
    unfold cmpop at hk
    dsimp only at hk
    split at hk
    · cases hk
      exact L2.op_notIn_str pins st σ H x y v u Q I rx ry ⟨_, _, (Is.str_v hs).1, (Is.str_v ht).1, q⟩
    · rename_i z _
      split at hk
      · rename_i ys hy
        split at hk
        · rename_i c
          cases hk
          obtain ⟨c1, c2⟩ := Bool.and_eq_true_iff.mp c
          obtain ⟨a, vs, ea, h1, h2⟩ := seq_of R ht hy
          obtain ⟨k1, k2⟩ := flatL_v c2 h2
          refine op_notIn_seq pins st σ H x y v u Q I rx ry ⟨a, vs, ea, hG ▸ seqV h1, (flat_v c1 hs).1, k1, ?_⟩
          rw [if_pos rfl, k2 c1 hs]; exact q
        · cases hk
      · cases hk
    · cases hk

/-- a comparison that calls nothing -/
def cmpM0 (o : Cop) (ma mb : M W) : M W := bnd ma fun x => bnd mb fun y => bnd (rd x) fun s => bnd (rd y) fun t => bnd (optM (cmpop o s t)) fun k => ret (.d (.bl k))
theorem cmp_imp {o : Cop} {Q : VK} (h : RT G Wx (cmpM0 o ma mb) σ H Q) : tOp (OKb G (cmpop o)) (RT G Wx ma) (RT G Wx mb) σ H Q := by
  obtain ⟨F, e, R, h⟩ := h
  refine RT.mono (Ex.rt R .refl rfl h) fun v H1 ⟨F1, e1, w1, R1, s1, a1, t1, r1, h1⟩ => ?_
  refine RT.mono (Ex.rt R1 a1 t1 h1) fun u H2 ⟨F2, e2, w2, R2, s2, a2, t2, r2, h2⟩ => ?_
  obtain ⟨sx, hx, h2⟩ := h2.rd R2 (r1.step R1 s2)
  obtain ⟨sy, hy, h2⟩ := h2.rd R2 r2
  obtain ⟨k, hk, h2⟩ := h2.opt
  exact ⟨F2, e2, σ, sx, sy, k, R2, hx, hy, hk, Ex.ret h2 F2 H2 R2 a2 t2 (.bl k) (show Is G F2 (.bl k) (.bl k) from Is.bl_of)⟩
theorem se_cmp {o : Cop} {po : CmpOp} (hG : G.K = X.K) (hu : X.A.units + 64 < cLine) (hb : copB o po = true) (ha : PE X a (RT G Wx ma)) (hb' : PE X b (RT G Wx mb)) (hm : behindInMarks po b = false) : PE X (.Compare a [po] [b] pos) (RT G Wx (cmpM0 o ma mb)) :=
  PE.imp (pe_cmpR (op_cmp (G := G) hG hu hb) ha hb' hm) fun _ _ _ h => cmp_imp h
/-- the value of m is a truth value -/
def BoolM (m : M W) : Prop := ∀ e w e', m e = .ok w e' → ∃ k, w = .d (.bl k)
theorem RTT.val {Q : Bool → Hp → Prop} (hm : BoolM m) (h : RTT G Wx m σ H Q) : RT G Wx m σ H (fun v H' => ∃ k, v = .bl k ∧ Q k H') := by
  obtain ⟨F, e, R, h⟩ := h
  refine ⟨F, e, R, h.bnd.res.mono fun w F1 e1 H1 R1 s1 t1 ⟨q, h1⟩ v r => ?_⟩
  obtain ⟨k, rfl⟩ := hm e w e1 q
  rw [tr_bl] at h1
  exact ⟨k, Is.bl_v (H := H1) r, Ex.ret h1 F1 H1 R1 s1 t1⟩
theorem boolM_bnd {α : Type} {m : M α} {f : α → M W} (h : ∀ a, BoolM (f a)) : BoolM (bnd m f) := by
  intro e w e' q
  unfold bnd at q
  cases q1 : m e with
  | ok a e1 => rw [q1] at q; exact h a e1 w e' q
  | exc _ _ => rw [q1] at q; cases q
  | stuck => rw [q1] at q; cases q
theorem boolM_ret (k : Bool) : BoolM (ret (.d (.bl k))) := fun e w e' q => by
  cases q; exact ⟨k, rfl⟩
theorem boolM_cmp {o : Cop} : BoolM (cmpM0 o ma mb) := boolM_bnd fun _ => boolM_bnd fun _ => boolM_bnd fun _ => boolM_bnd fun _ => boolM_bnd fun k => boolM_ret k
theorem st_cmp {o : Cop} {po : CmpOp} (hG : G.K = X.K) (hu : X.A.units + 64 < cLine) (hb : copB o po = true) (ha : PE X a (RT G Wx ma)) (hb' : PE X b (RT G Wx mb)) (hm : behindInMarks po b = false) : PT X (.Compare a [po] [b] pos) (RTT G Wx (cmpM0 o ma mb)) :=
  PT.imp (pt_cmpR (op_cmp (G := G) hG hu hb) ha hb' hm) fun _ _ _ h => cmp_imp (RTT.val boolM_cmp h)
/-- a op b op' c -/
def chainM (o1 o2 : Cop) (ma mb mc : M W) : M W := bnd ma fun x => bnd mb fun y => bnd (rd x) fun s => bnd (rd y) fun t =>
  bnd (optM (cmpop o1 s t)) fun k => if k = true then bnd mc fun z => bnd (rd y) fun t => bnd (rd z) fun u => bnd (optM (cmpop o2 t u)) fun k2 => ret (.d (.bl k2)) else ret (.d (.bl false))
theorem chain_imp {o1 o2 : Cop} {Q : VK} (h : RT G Wx (chainM o1 o2 ma mb mc) σ H Q) : tChain (OKb G (cmpop o1)) (OKb G (cmpop o2)) (RT G Wx ma) (RT G Wx mb) (RT G Wx mc) σ H Q := by
  obtain ⟨F, e, R, h⟩ := h
  refine RT.mono (Ex.rt R .refl rfl h) fun v H1 ⟨F1, e1, w1, R1, s1, a1, t1, r1, h1⟩ => ?_
  refine RT.mono (Ex.rt R1 a1 t1 h1) fun u H2 ⟨F2, e2, w2, R2, s2, a2, t2, r2, h2⟩ => ?_
  obtain ⟨sx, hx, h2⟩ := h2.rd R2 (r1.step R1 s2)
  obtain ⟨sy, hy, h2⟩ := h2.rd R2 r2
  obtain ⟨k, hk, h2⟩ := h2.opt
  refine ⟨F2, e2, σ, sx, sy, k, R2, hx, hy, hk, k, rfl, ?_⟩
  cases k with
  | false =>
    rw [if_neg Bool.false_ne_true] at h2 ⊢
    exact Ex.ret h2 F2 H2 R2 a2 t2 (.bl false) (show Is G F2 (.bl false) (.bl false) from Is.bl_of)
  | true =>
    rw [if_pos rfl] at h2 ⊢
    refine RT.mono (Ex.rt R2 a2 t2 h2) fun z H3 ⟨F3, e3, w3, R3, s3, a3, t3, r3, h3⟩ => ?_
    obtain ⟨sy', hy', h3⟩ := h3.rd R3 (r2.step R2 s3)
    obtain ⟨sz, hz, h3⟩ := h3.rd R3 r3
    obtain ⟨k, hk, h3⟩ := h3.opt
    exact ⟨F3, e3, σ, sy', sz, k, R3, hy', hz, hk, Ex.ret h3 F3 H3 R3 a3 t3 (.bl k) (show Is G F3 (.bl k) (.bl k) from Is.bl_of)⟩
theorem boolM_chain {o1 o2 : Cop} : BoolM (chainM o1 o2 ma mb mc) := boolM_bnd fun _ => boolM_bnd fun _ => boolM_bnd fun _ => boolM_bnd fun _ => boolM_bnd fun k => by
  cases k with
  | true => rw [if_pos rfl]; exact boolM_bnd fun _ => boolM_bnd fun _ => boolM_bnd fun _ => boolM_bnd fun k => boolM_ret k
  | false => rw [if_neg Bool.false_ne_true]; exact boolM_ret _
theorem se_chain {o1 o2 : Cop} {p1 p2 : CmpOp} (hG : G.K = X.K) (hu : X.A.units + 64 < cLine) (hb1 : copB o1 p1 = true) (hb2 : copB o2 p2 = true) (ha : PE X a (RT G Wx ma)) (hb : PE X b (RT G Wx mb)) (hc : PE X c (RT G Wx mc)) (hm : lastMarks [p1, p2] [b, c] = false) :
    PE X (.Compare a [p1, p2] [b, c] pos) (RT G Wx (chainM o1 o2 ma mb mc)) :=
  PE.imp (pe_chain (op_cmp (G := G) hG hu hb1) (op_cmp (G := G) hG hu hb2) ha hb hc hm) fun _ _ _ h => chain_imp h
theorem st_chain {o1 o2 : Cop} {p1 p2 : CmpOp} (hG : G.K = X.K) (hu : X.A.units + 64 < cLine) (hb1 : copB o1 p1 = true) (hb2 : copB o2 p2 = true) (ha : PE X a (RT G Wx ma)) (hb : PE X b (RT G Wx mb)) (hc : PE X c (RT G Wx mc)) (hm : lastMarks [p1, p2] [b, c] = false) :
    PT X (.Compare a [p1, p2] [b, c] pos) (RTT G Wx (chainM o1 o2 ma mb mc)) :=
  PT.imp (pt_chain (op_cmp (G := G) hG hu hb1) (op_cmp (G := G) hG hu hb2) ha hb hc hm) fun _ _ _ h => chain_imp (RTT.val boolM_chain h)
/-- is None -/
theorem isN_of (h : SlRel G F H s v) : decide (v = .non) = isNonS s := by
  cases s with
  | own c => obtain ⟨a, e1, _⟩ := h; subst e1; rfl
  | d z =>
    have h : Is G F z v := h
    cases z <;> rw [Is] at h
    · subst h; rfl
    · subst h; rfl
    · subst h; rfl
    · obtain ⟨rfl, _⟩ := h; rfl
    · obtain ⟨a, vs, rfl, _⟩ := h; rfl
    · obtain ⟨a, vs, rfl, _⟩ := h; rfl
    · obtain ⟨a, dx, vs, rfl, _⟩ := h; rfl
    · obtain ⟨a, rfl, _⟩ := h; rfl
def isNM (m : M W) : M W := bnd m fun x => bnd (rd x) fun s => ret (.d (.bl (isNonS s)))
def notNM (m : M W) : M W := bnd m fun x => bnd (rd x) fun s => ret (.d (.bl (!isNonS s)))
theorem isN_imp {Q : VK} (h : RT G Wx (isNM m) σ H Q) : tIsN (RT G Wx m) σ H Q := by
  obtain ⟨F, e, R, h⟩ := h
  refine RT.mono (Ex.rt R .refl rfl h) fun v H1 ⟨F1, e1, w1, R1, s1, a1, t1, r1, h1⟩ => ?_
  obtain ⟨sx, hx, h2⟩ := h1.rd R1 r1
  rw [isN_of hx]
  exact Ex.ret h2 F1 H1 R1 a1 t1 _ (show Is G F1 (.bl _) (.bl _) from Is.bl_of)
theorem notN_imp {Q : VK} (h : RT G Wx (notNM m) σ H Q) : tNotN (RT G Wx m) σ H Q := by
  obtain ⟨F, e, R, h⟩ := h
  refine RT.mono (Ex.rt R .refl rfl h) fun v H1 ⟨F1, e1, w1, R1, s1, a1, t1, r1, h1⟩ => ?_
  obtain ⟨sx, hx, h2⟩ := h1.rd R1 r1
  rw [isN_of hx]
  exact Ex.ret h2 F1 H1 R1 a1 t1 _ (show Is G F1 (.bl _) (.bl _) from Is.bl_of)
theorem se_isN {j : Nat} {p2 : Pos} (ha : PE X a (RT G Wx ma)) : PE X (.Compare a [.Is] [.Constant .none j p2] pos) (RT G Wx (isNM ma)) := PE.imp (pe_cmp (pc_isN ha)) fun _ _ _ h => isN_imp h
theorem se_notN {j : Nat} {p2 : Pos} (ha : PE X a (RT G Wx ma)) : PE X (.Compare a [.IsNot] [.Constant .none j p2] pos) (RT G Wx (notNM ma)) := PE.imp (pe_cmp (pc_notN ha)) fun _ _ _ h => notN_imp h
theorem st_isN {j : Nat} {p2 : Pos} (ha : PE X a (RT G Wx ma)) : PT X (.Compare a [.Is] [.Constant .none j p2] pos) (RTT G Wx (isNM ma)) := PT.imp (pt_cmp (pc_isN ha)) fun _ _ _ h => isN_imp (RTT.val (boolM_bnd fun _ => boolM_bnd fun _ => boolM_ret _) h)
theorem st_notN {j : Nat} {p2 : Pos} (ha : PE X a (RT G Wx ma)) : PT X (.Compare a [.IsNot] [.Constant .none j p2] pos) (RTT G Wx (notNM ma)) := PT.imp (pt_cmp (pc_notN ha)) fun _ _ _ h => notN_imp (RTT.val (boolM_bnd fun _ => boolM_bnd fun _ => boolM_ret _) h)

/-! ### subscripts -/
theorem ix_eq {n : Nat} {i : Int} : ix n i = ixN n i := rfl
theorem op_item (hG : G.K = X.K) : IxR X (fun x y H Q => ∃ F e σ s t d, Rel G F e σ H ∧ SlRel G F H s x ∧ SlRel G F H t y ∧ item s t = some d ∧ ∀ z, Is G F d z → Q z H) := by
  intro value slice pins st σ H x y v u Q I rx ry h hs'
  obtain ⟨F, e, σ', s, t, d, R, hs, ht, hd, q⟩ := h
  unfold item at hd
  split at hd
  · rename_i z i
    obtain ⟨c, hc, hd⟩ := Option.map_eq_some_iff.mp hd
    subst hd
    obtain ⟨ex, hl⟩ := Is.str_v hs
    refine ix_str value slice pins st σ H x y v u Q I rx ry ⟨z, i, c, ex, Is.int_v ht, by rw [sizeLine_eq]; exact hl, hc, q _ (Is.str_of ?_)⟩ hs'
    show 1 ≤ 16777216
    decide
  · rename_i i _
    split at hd
    · rename_i xs hx
      obtain ⟨j, hj, hd⟩ := Option.bind_eq_some_iff.mp hd
      obtain ⟨a, vs, ea, h1, h2⟩ := seq_of R hs hx
      obtain ⟨z, hz, hi⟩ := h2.get hd
      have hat : atI vs i = some z := by
        unfold atI
        rw [h2.length, ← ix_eq, hj]
        exact hz
      rcases h1 with h1 | h1
      · exact ix_list value slice pins st σ H x y v u Q I rx ry ⟨a, vs, i, z, ea, Is.int_v ht, SqL.of h1, hat, q z hi⟩ hs'
      · exact ix_tup value slice pins st σ H x y v u Q I rx ry ⟨a, vs, i, z, ea, Is.int_v ht, hG ▸ h1, hat, q z hi⟩ hs'
    · cases hd
  · cases hd
def plainI : Expr → Bool
  | .Slice _ _ _ _ => false
  | _ => true
theorem plainIx_of (h : plainI b = true) : PlainIx b := fun o i => by
  cases b <;> first | rfl | exact nomatch (show false = true from h)
def idxM (ma mb : M W) : M W := bnd ma fun x => bnd mb fun y => bnd (rd x) fun s => bnd (rd y) fun t => bnd (optM (item s t)) fun d => ret (.d d)
theorem se_idx (hG : G.K = X.K) (ha : PE X a (RT G Wx ma)) (hb : PE X b (RT G Wx mb)) (hp : plainI b = true) : PE X (.Subscript a b pos) (RT G Wx (idxM ma mb)) := by
  refine PE.imp (pe_ix (op_item (G := G) hG) ha hb (plainIx_of hp)) fun σ H Q h => ?_
  obtain ⟨F, e, R, h⟩ := h
  refine RT.mono (Ex.rt R .refl rfl h) fun v H1 ⟨F1, e1, w1, R1, s1, a1, t1, r1, h1⟩ => ?_
  refine RT.mono (Ex.rt R1 a1 t1 h1) fun u H2 ⟨F2, e2, w2, R2, s2, a2, t2, r2, h2⟩ => ?_
  obtain ⟨sx, hx, h2⟩ := h2.rd R2 (r1.step R1 s2)
  obtain ⟨sy, hy, h2⟩ := h2.rd R2 r2
  obtain ⟨d, hd, h2⟩ := h2.opt
  exact ⟨F2, e2, σ, sx, sy, d, R2, hx, hy, hd, fun z hz => Ex.ret h2 F2 H2 R2 a2 t2 z hz⟩
theorem cut_eq {α : Type} (xs : List α) (lo hi : Option Int) : cut xs lo hi = (xs.drop (HT.sIx xs.length 0 lo)).take (HT.sIx xs.length xs.length hi - HT.sIx xs.length 0 lo) := rfl
theorem IsL.cut {xs : List D} {vs : List V} (h : IsL G F xs vs) (lo hi : Option Int) : IsL G F (MV.cut xs lo hi) (cutV vs lo hi) := by
  unfold cutV
  rw [cut_eq, h.length]
  exact (h.drop _).take _

theorem cutS_eq (z : Str) (lo hi : Option Int) : (⟨(cut z.cps.toList lo hi).toArray⟩ : Str) = cutS z lo hi := by
  unfold cutS
  rw [cut_eq]
  rw [show z.cps.toList.length = z.length from Array.length_toList ..]
def RO (G : Gx) (Wx : L2.St → KW D) (m : M (Option Int)) : TO := fun σ H Q => ∃ F e, Rel G F e σ H ∧ Ex G (Wx σ) ⟨F, e, H⟩ σ m e (fun o F' e' H' => Q o H')
theorem PO.imp {X : Cx} {e : Option Expr} {t t' : TO} (h : PO X e t) (k : ∀ σ H Q, t' σ H Q → t σ H Q) : PO X e t' := ⟨fun pins s σ H Q I h' => h.run pins s σ H Q I (k σ H Q h')⟩
theorem so_none : PO X none (RO G Wx (ret none)) := PO.imp po_none fun σ H Q h => by
  obtain ⟨F, e, R, h⟩ := h
  exact Ex.ret h F H R .refl rfl
theorem intOf_v {i : Int} (h : SlRel G F H s v) (q : intOf s = some i) : v = .int i := by
  unfold intOf at q
  split at q
  · cases q; exact Is.int_v h
  · cases q
theorem so_some (h : PE X x (RT G Wx m)) : PO X (some x) (RO G Wx (bnd m fun z => bnd (rd z) fun s => bnd (optM (intOf s)) fun i => ret (some i))) := PO.imp (po_some h) fun σ H Q h => by
  obtain ⟨F, e, R, h⟩ := h
  refine RT.mono (Ex.rt R .refl rfl h) fun v H1 ⟨F1, e1, w1, R1, s1, a1, t1, r1, h1⟩ => ?_
  obtain ⟨sx, hx, h2⟩ := h1.rd R1 r1
  obtain ⟨i, hi, h2⟩ := h2.opt
  exact ⟨i, intOf_v hx hi, Ex.ret h2 F1 H1 R1 a1 t1⟩
theorem RO.mono {mo : M (Option Int)} {Q Q' : Option Int → Hp → Prop} (h : RO G Wx mo σ H Q) (k : ∀ o H', Q o H' → Q' o H') : RO G Wx mo σ H Q' := by
  obtain ⟨F, e, R, h⟩ := h
  exact ⟨F, e, R, h.mono fun o F1 e1 H1 _ _ _ h1 => k o H1 h1⟩
theorem Ex.ro {A : Anch} {β : Type} {f : Option Int → M β} {K : KW β} {mo : M (Option Int)} (R : Rel G F e σ H) (s : A.to σ F e H) (t : e.t = A.e.t) (h : Ex G (Wx σ) A σ (MV.bnd mo f) e K) :
    RO G Wx mo σ H (fun o H1 => ∃ F1 e1, Rel G F1 e1 σ H1 ∧ Step e.t F e σ H F1 e1 σ H1 ∧ A.to σ F1 e1 H1 ∧ e1.t = A.e.t ∧ Ex G (Wx σ) A σ (f o) e1 K) := by
  refine ⟨F, e, R, (h.bnd.later (A' := ⟨F, e, H⟩) s t).mono fun o F1 e1 H1 R1 s1 t1 h1 => ?_⟩
  have s1' : Step e.t F e σ H F1 e1 σ H1 := s1
  have t1' : e1.t = e.t := t1
  exact ⟨F1, e1, R1, s1', Step.to s t s1', t1'.trans t, h1⟩
theorem sl_any (hG : G.K = X.K) : SlR X (fun x lo hi H Q => ∃ F e σ s w, Rel G F e σ H ∧ SlRel G F H s x ∧ sliced s lo hi = some w ∧
    ∀ F' H' v, Rel G F' e σ H' → Step e.t F e σ H F' e σ H' → WRel G F' e σ H' H w v → Q v H') := by
  intro pins st σ H x v vl vu lo hi sl Q I rx hs pl pu h
  obtain ⟨F, e, σ', s, w, R, hr, hw, q⟩ := h
  unfold sliced at hw
  split at hw
  · rename_i xs
    cases hw
    obtain ⟨a, vs, ea, h1, h2⟩ := tup_of R hr
    refine sl_tupA pins st σ H x v vl vu lo hi sl Q I rx hs pl pu ⟨a, vs, ea, hG ▸ h1, fun z => ?_, fun _ p hp => ?_⟩
    · refine q F H _ R .refl (show Is G F (.tup (cut xs lo hi)) (.ref a) from ?_)
      have e1 : cut xs lo hi = xs := by
        rw [cut_eq, ← h2.length, z.1, z.2]
        simp [h2.length]
      rw [e1, ← ea]; exact hr
    · obtain ⟨F', k1, k2, k3⟩ := R.alloc_tup hp (h2.cut lo hi)
      exact q F' _ _ k1 k2 k3
  · rename_i z
    cases hw
    obtain ⟨ex, hl⟩ := Is.str_v hr
    refine L2.sl_str pins st σ H x v vl vu lo hi sl Q I rx hs pl pu ⟨z, ex, by rw [sizeLine_eq]; exact hl, ?_⟩
    rw [← cutS_eq]
    refine q F H _ R .refl (show Is G F (.str _) (.str _) from Is.str_of ?_)
    rw [cutS_eq]
    exact Nat.le_trans (cutS_length z lo hi) hl
  · split at hw
    · rename_i xs hx
      cases hw
      obtain ⟨a, vs, ea, h1, h2⟩ := lst_of R hr hx
      refine sl_list pins st σ H x v vl vu lo hi sl Q I rx hs pl pu ⟨a, vs, ea, SqL.of h1, fun p hp => ?_⟩
      obtain ⟨k1, k2, k3⟩ := R.alloc_new hp (h2.cut lo hi)
      exact q F _ _ k1 k2 k3
    · cases hw
def slcM (m : M W) (ml mh : M (Option Int)) : M W := bnd m fun x => bnd ml fun l => bnd mh fun h => bnd (rd x) fun s => optM (sliced s l h)
theorem se_slc {lo hi : Option Expr} {ml mh : M (Option Int)} {p2 : Pos} (hG : G.K = X.K) (hx : PE X x (RT G Wx m)) (hl : PO X lo (RO G Wx ml)) (hh : PO X hi (RO G Wx mh)) : PE X (.Subscript x (.Slice lo hi none p2) pos) (RT G Wx (slcM m ml mh)) := by
  refine PE.imp (pe_slice (sl_any (G := G) hG) hx hl hh) fun σ H Q h => ?_
  obtain ⟨F, e, R, h⟩ := h
  refine RT.mono (Ex.rt R .refl rfl h) fun v H1 ⟨F1, e1, w1, R1, s1, a1, t1, r1, h1⟩ => ?_
  refine RO.mono (Ex.ro R1 a1 t1 h1) fun l H2 ⟨F2, e2, R2, s2, a2, t2, h2⟩ => ?_
  refine RO.mono (Ex.ro R2 a2 t2 h2) fun u H3 ⟨F3, e3, R3, s3, a3, t3, h3⟩ => ?_
  obtain ⟨sx, hx, h3⟩ := h3.rd R3 ((r1.step R1 s2).step R2 s3)
  obtain ⟨w, hw, h3⟩ := h3.optL
  exact ⟨F3, e3, σ, sx, w, R3, hx, hw, fun F' H' v R' S' r' => h3 F' H' R' (Step.to (A := ⟨F, e, H⟩) a3 t3 S') t3 v (r'.early fun z hz => s1.th z (s2.th z (s3.th z hz)))⟩
def revM (m : M W) : M W := bnd m fun x => bnd (rd x) fun s => optM (reved s)
theorem se_rev {k : Nat} {p1 p2 p3 : Pos} (hx : PE X x (RT G Wx m)) : PE X (.Subscript x (.Slice none none (some (.UnaryOp .USub (.Constant (.int 1) k p1) p2)) p3) pos) (RT G Wx (revM m)) := by
  refine PE.imp (pe_revL hx) fun σ H Q h => ?_
  obtain ⟨F, e, R, h⟩ := h
  refine RT.mono (Ex.rt R .refl rfl h) fun v H1 ⟨F1, e1, w1, R1, s1, a1, t1, r1, h1⟩ => ?_
  obtain ⟨sx, hx, h2⟩ := h1.rd R1 r1
  obtain ⟨w, hw, h2⟩ := h2.optL
  unfold reved at hw
  split at hw
  · rename_i xs hxs
    cases hw
    obtain ⟨a, vs, ea, k1, k2⟩ := lst_of R1 hx hxs
    refine ⟨a, vs, ea, SqL.of k1, fun p hp => ?_⟩
    obtain ⟨j1, j2, j3⟩ := R1.alloc_new hp k2.reverse
    exact h2 F1 _ j1 (Step.to (A := ⟨F, e, H⟩) a1 t1 j2) t1 _ (j3.early fun z hz => s1.th z hz)
  · cases hw

/-! ### built-ins -/
def primB : Prim → Option (Str × Value)
  | .len => some ("len", .builtin "len")
  | .list => some ("list", .type "list")
  | .tuple => some ("tuple", .type "tuple")
  | .int => some ("int", .type "int")
  | .sorted => some ("sorted", .builtin "sorted")
  | .max => some ("max", .builtin "max")
  | _ => none
theorem CallR.len (hG : G.K = X.K) : CallR X (.builtin "len") (fun xs H Q => ∃ x, xs = [x] ∧ OK1 G (prim1 .len) x H Q) := by
  intro pins st σ H xs us Q I r h
  obtain ⟨x, rfl, F, e, σ', s, w, R, hs, hw, q⟩ := h
  unfold prim1 at hw
  dsimp only at hw
  split at hw
  · rename_i z
    cases hw
    obtain ⟨ex, hl⟩ := Is.str_v hs
    subst ex
    exact call_len pins st σ H _ us Q I r ⟨.str z, z.length, rfl, ⟨by rw [sizeLine_eq]; exact hl, rfl⟩, q F H _ R .refl (show Is G F (.int _) (.int _) from Is.int_of)⟩
  · obtain ⟨xs, hxs, hw⟩ := Option.map_eq_some_iff.mp hw
    subst hw
    obtain ⟨a, vs, ea, h1, h2⟩ := seq_of R hs hxs
    subst ea
    refine call_len pins st σ H _ us Q I r ⟨.ref a, vs.length, rfl, ?_, ?_⟩
    · rcases h1 with h1 | h1
      · exact .inl ⟨vs, SqL.of h1, rfl⟩
      · exact .inr ⟨vs, hG ▸ h1, rfl⟩
    · rw [h2.length]; exact q F H _ R .refl (show Is G F (.int _) (.int _) from Is.int_of)
theorem CallR.list (hG : G.K = X.K) : CallR X (.type "list") (fun xs H Q => ∃ x, xs = [x] ∧ OK1 G (prim1 .list) x H Q) := by
  intro pins st σ H xs us Q I r h
  obtain ⟨x, rfl, F, e, σ', s, w, R, hs, hw, q⟩ := h
  unfold prim1 at hw
  dsimp only at hw
  split at hw
  · rename_i ns
    cases hw
    have hs : Is G F (.scr ns) x := hs
    rw [Is] at hs
    obtain ⟨a, ea, h1⟩ := hs
    subst ea
    refine call_list_of pins st σ H _ us Q I r ⟨a, _, rfl, .inl (hG ▸ SqL.le R.sub h1), fun p hp => ?_⟩
    have hi : IsL G F (ns.map D.int) (ns.map V.int) := by
      clear h1 q hs
      induction ns with
      | nil => exact IsL.nil
      | cons n ns ih => exact IsL.cons Is.int_of ih
    obtain ⟨k1, k2, k3⟩ := R.alloc_new hp hi
    exact q F _ _ k1 k2 k3
  · obtain ⟨xs, hxs, hw⟩ := Option.map_eq_some_iff.mp hw
    subst hw
    obtain ⟨a, vs, ea, h1, h2⟩ := seq_of R hs hxs
    subst ea
    refine call_list_of pins st σ H _ us Q I r ⟨a, vs, rfl, hG ▸ seqV h1, fun p hp => ?_⟩
    obtain ⟨k1, k2, k3⟩ := R.alloc_new hp h2
    exact q F _ _ k1 k2 k3
theorem CallR.tuple (hG : G.K = X.K) : CallR X (.type "tuple") (fun xs H Q => ∃ x, xs = [x] ∧ OK1 G (prim1 .tuple) x H Q) := by
  intro pins st σ H xs us Q I r h
  obtain ⟨x, rfl, F, e, σ', s, w, R, hs, hw, q⟩ := h
  unfold prim1 at hw
  dsimp only at hw
  obtain ⟨xs, hxs, hw⟩ := Option.map_eq_some_iff.mp hw
  subst hw
  cases q2 : s.lst? with
  | some ys =>
    have e1 : xs = ys := by
      cases s with
      | d z => cases z <;> first | (cases q2; cases hxs; rfl) | cases q2
      | own c =>
        cases c with
        | lst zs => cases q2; cases hxs; rfl
        | obj _ _ _ => cases q2
    subst e1
    obtain ⟨a, vs, ea, h1, h2⟩ := lst_of R hs q2
    subst ea
    refine call_tuple_of pins st σ H _ us Q I r ⟨a, vs, rfl, .inl ⟨SqL.of h1, fun p hp => ?_⟩⟩
    obtain ⟨F', k1, k2, k3⟩ := R.alloc_tup hp h2
    exact q F' _ _ k1 k2 k3
  | none =>
    cases s with
    | own c =>
      cases c with
      | lst zs => exact nomatch q2
      | obj _ _ _ => exact nomatch hxs
    | d z =>
      cases z with
      | tup zs =>
        cases hxs
        obtain ⟨a, vs, ea, h1, h2⟩ := tup_of R hs
        subst ea
        exact call_tuple_of pins st σ H _ us Q I r ⟨a, vs, rfl, .inr ⟨hG ▸ h1, q F H _ R .refl hs⟩⟩
      | lst _ _ => exact nomatch q2
      | _ => exact nomatch hxs
theorem CallR.int : CallR X (.type "int") (fun xs H Q => ∃ x, xs = [x] ∧ OK1 G (prim1 .int) x H Q) := by
  intro pins st σ H xs us Q I r h
  obtain ⟨x, rfl, F, e, σ', s, w, R, hs, hw, q⟩ := h
  unfold prim1 at hw
  dsimp only at hw
  split at hw
  · rename_i i
    cases hw
    have e1 := Is.int_v hs
    exact call_int1 pins st σ H _ us Q I r (.inl ⟨i, by rw [e1], q F H _ R .refl (show Is G F (.int i) (.int i) from Is.int_of)⟩)
  · rename_i k
    cases hw
    have e1 := Is.bl_v hs
    exact call_int1 pins st σ H _ us Q I r (.inr ⟨k, by rw [e1], q F H _ R .refl (show Is G F (.int _) (.int _) from Is.int_of)⟩)
  · cases hw

theorem isL_zip : ∀ {xs : List D} {vs : List V}, IsL G F xs vs → ∀ p ∈ xs.zip vs, Is G F p.1 p.2
  | [], vs, h, p, hp => by simp at hp
  | x :: xs, vs, h, p, hp => by
    rw [IsL] at h
    obtain ⟨v, r, rfl, h1, h2⟩ := h
    rcases List.mem_cons.mp hp with e1 | hp
    · rw [e1]; exact h1
    · exact isL_zip h2 p hp
theorem isL_of_pairs : ∀ {ps : List (D × V)}, (∀ p ∈ ps, Is G F p.1 p.2) → IsL G F (ps.map (·.1)) (ps.map (·.2))
  | [], _ => IsL.nil
  | p :: ps, h => IsL.cons (h p (List.Mem.head _)) (isL_of_pairs fun q hq => h q (List.Mem.tail _ hq))
theorem each_rel : ∀ {vs : List V} {us : List Value} {xs : List D}, Vals vs us → xs.length = vs.length → PySem.W.EachIs (fun (u : Value) (p : D × V) => RelV p.2 u) us (xs.zip vs)
  | [], _, [], .nil, _ => .nil
  | v :: vs, _, x :: xs, .cons r t, h => .cons r (each_rel t (by simpa using h))
theorem each_vals : ∀ {us : List Value} {ps : List (D × V)}, PySem.W.EachIs (fun (u : Value) (p : D × V) => RelV p.2 u) us ps → Vals (ps.map (·.2)) us
  | _, _, .nil => .nil
  | _, _, .cons r t => .cons r (each_vals t)
theorem CallR.sorted (hG : G.K = X.K) (hu : X.A.units + 200 < cLine) : CallR X (.builtin "sorted") (fun xs H Q => ∃ x, xs = [x] ∧ OK1 G (prim1 .sorted) x H Q) := by
  intro pins st σ H xs us Q I r h
  obtain ⟨x, rfl, F, e, σ', s, w, R, hs, hw, q⟩ := h
  unfold prim1 at hw
  dsimp only at hw
  split at hw
  · rename_i xs hx
    split at hw
    · rename_i c
      cases hw
      obtain ⟨a, vs, ea, h1, h2⟩ := lst_of R hs hx
      subst ea
      obtain ⟨c1, c2⟩ := Bool.and_eq_true_iff.mp c
      unfold sortable at c2
      obtain ⟨c2, c4⟩ := Bool.and_eq_true_iff.mp c2
      obtain ⟨c2, c3⟩ := Bool.and_eq_true_iff.mp c2
      obtain ⟨its, rv, pl, hz⟩ := I.list (SqL.of (K := X.K) h1)
      rw [Vals.ref1 r]
      have hlen : xs.length = vs.length := h2.length.symm
      have emap : (xs.zip vs).map (fun p => MV.py p.1) = xs.map MV.py := by
        have : (fun p : D × V => MV.py p.1) = MV.py ∘ Prod.fst := rfl
        rw [this, ← List.map_map, List.map_fst_zip (by omega)]
      have eR : PySem.W.EachIs (fun (v : Value) (b : D × V) => ∃ as, PySem.Reads st.heap v (MV.py b.1) as) its (xs.zip vs) := by
        have all : ∀ p ∈ xs.zip vs, Dp X.K H p.2 (MV.py p.1) := fun p hp => by
          have hm : p.1 ∈ xs := (List.of_mem_zip hp).1
          exact hG ▸ dp_of R.sub p.1 p.2 (List.all_eq_true.mp c1 p.1 hm) (isL_zip h2 p hp)
        have go : ∀ {us : List Value} {ps : List (D × V)}, PySem.W.EachIs (fun (u : Value) (p : D × V) => RelV p.2 u) us ps → (∀ p ∈ ps, Dp X.K H p.2 (MV.py p.1)) → PySem.W.EachIs (fun (v : Value) (b : D × V) => ∃ as, PySem.Reads st.heap v (MV.py b.1) as) us ps := by
          intro us ps hh
          induction hh with
          | nil => intro _; exact .nil
          | cons r t ih => intro h; exact .cons ((h _ (List.Mem.head _)).reads I _ _ _ r) (ih fun q hq => h q (List.Mem.tail _ hq))
        exact go (each_rel rv hlen) all
      refine PySem.W.sorted_data (enc := fun p : D × V => MV.py p.1) (R := fun u p => RelV p.2 u) pl.isList (each_rel rv hlen) eR ?_ ?_ ?_ ?_ fun out ol oe => ?_
      · rw [emap]
        intro d hd d' hd'
        exact List.all_eq_true.mp (List.all_eq_true.mp c2 d hd) d' hd'
      · rw [emap]
        rcases Bool.or_eq_true_iff.mp c3 with c3 | c3
        · refine .inl fun d hd => ?_
          have := List.all_eq_true.mp c3 d hd
          unfold tupleB at this
          split at this
          · exact ⟨_, _, rfl⟩
          · cases this
        · refine .inr fun d hd => ?_
          have := List.all_eq_true.mp c3 d hd
          unfold otherB at this
          constructor
          · rintro rfl; cases this
          · rintro ys rfl; cases this
      · rw [List.length_zip, sizeLine_eq]
        have := hz
        rw [sizeLine_eq] at this
        omega
      · intro b hb
        have hm : b.1 ∈ xs := (List.of_mem_zip hb).1
        have := of_decide_eq_true (List.all_eq_true.mp c4 (MV.py b.1) (List.mem_map.mpr ⟨_, hm, rfl⟩))
        show X.A.units + 2 + (MV.py b.1).depth < cLine
        omega
      · obtain ⟨ep, he'⟩ := PyProof.Rows.sortedAll_at st.heap its out.toArray
        have hperm := List.mergeSort_perm (xs.zip vs) (PySem.W.dataLe false fun p : D × V => MV.py p.1)
        have hin : ∀ p ∈ (xs.zip vs).mergeSort (PySem.W.dataLe false fun p : D × V => MV.py p.1), Is G F p.1 p.2 := fun p hp => isL_zip h2 p (hperm.mem_iff.mp hp)
        have hL := isL_of_pairs hin
        have emap2 : ((xs.zip vs).mergeSort (PySem.W.dataLe false fun p : D × V => MV.py p.1)).map (·.1) = sortD xs := by
          unfold sortD
          have e3 : ((xs.zip vs).mergeSort (PySem.W.dataLe false fun p : D × V => MV.py p.1)).map (fun p => p.1) = ((xs.zip vs).map (fun p => p.1)).mergeSort (PySem.W.dataLe false MV.py) :=
            List.map_mergeSort (fun a _ b _ => rfl)
          rw [e3, List.map_fst_zip (by omega)]
        rw [emap2] at hL
        have hp : H (st.heap.objs.size + 1) = none := I.hok.fresh (Nat.le_succ _)
        obtain ⟨k1, k2, k3⟩ := R.alloc_new hp hL
        refine ⟨.ref _, upd H (st.heap.objs.size + 1) (.lst _), I.laid (t' := st.toks) (fun _ _ => PyProof.Rows.sortedAll_old) (Nat.le_succ _) ⟨?_, out, ep, each_vals oe, by simpa using he'⟩, rfl, q F _ _ k1 k2 k3⟩
        rw [hL.length]
        unfold sortD
        rw [List.length_mergeSort, hlen]
        exact hz
    · cases hw
  · cases hw
end
end MV
/-! MVExp4: built-ins by name, isinstance, attributes. -/
namespace MV
open PySem PySem.Spec L2

section
variable {G : Gx} {F F' : Fz} {e e' : Env} {σ : L2.St} {H H' : Hp} {s t : Sl} {v w : V} {X : Cx} {Wx : L2.St → KW D} {m ma mb mc : M W} {a b c x y : Expr} {pos : Pos} {es : List Expr}

theorem ints_v : ∀ {xs : List D} {vs : List V} {ns : List Int}, IsL G F xs vs → ints? xs = some ns → vs = ns.map V.int
  | [], vs, ns, h, q => by
    rw [IsL] at h
    cases q
    exact h
  | x :: xs, vs, ns, h, q => by
    rw [IsL] at h
    obtain ⟨v, r, rfl, h1, h2⟩ := h
    cases x with
    | int i =>
      obtain ⟨ms, hm, q⟩ := Option.map_eq_some_iff.mp (show (ints? xs).map (i :: ·) = some ns from q)
      subst q
      rw [Is] at h1
      rw [h1, ints_v h2 hm]; rfl
    | _ => exact nomatch q
theorem strs_v : ∀ {xs : List D} {vs : List V} {ns : List Str}, IsL G F xs vs → strs? xs = some ns → vs = ns.map V.str
  | [], vs, ns, h, q => by
    rw [IsL] at h
    cases q
    exact h
  | x :: xs, vs, ns, h, q => by
    rw [IsL] at h
    obtain ⟨v, r, rfl, h1, h2⟩ := h
    cases x with
    | str i =>
      obtain ⟨ms, hm, q⟩ := Option.map_eq_some_iff.mp (show (strs? xs).map (i :: ·) = some ns from q)
      subst q
      rw [Is] at h1
      rw [h1.1, strs_v h2 hm]; rfl
    | _ => exact nomatch q
theorem foldl_max_ge : ∀ (xs : List Int) (a : Int), a ≤ xs.foldl max a ∧ (∀ y ∈ xs, y ≤ xs.foldl max a) ∧ (xs.foldl max a = a ∨ xs.foldl max a ∈ xs)
  | [], a => ⟨Int.le_refl _, fun _ h => (by simp at h), .inl rfl⟩
  | x :: xs, a => by
    obtain ⟨h1, h2, h3⟩ := foldl_max_ge xs (max a x)
    rw [List.foldl_cons]
    refine ⟨by omega, fun y hy => ?_, ?_⟩
    · rcases List.mem_cons.mp hy with rfl | hy
      · omega
      · exact h2 y hy
    · rcases h3 with h3 | h3
      · by_cases c : a ≤ x
        · right
          rw [h3, Int.max_eq_right c]
          exact List.Mem.head _
        · left
          rw [h3, Int.max_eq_left (by omega)]
      · exact .inr (List.Mem.tail _ h3)
theorem CallR.max (hG : G.K = X.K) (hc : X.calm = true) : CallR X (.builtin "max") (fun xs H Q => ∃ x, xs = [x] ∧ OK1 G (prim1 .max) x H Q) := by
  intro pins st σ H xs us Q I r h
  obtain ⟨x, rfl, F, e, σ', s, w, R, hs, hw, q⟩ := h
  unfold prim1 at hw
  dsimp only at hw
  split at hw
  · rename_i xs hx
    split at hw
    · rename_i ns hn
      obtain ⟨m, hm, hw⟩ := Option.map_eq_some_iff.mp hw
      subst hw
      obtain ⟨a, vs, ea, h1, h2⟩ := lst_of R hs hx
      subst ea
      have ev := ints_v h2 hn
      subst ev
      refine cr_max hc pins st σ H _ us Q I r ⟨a, ns, rfl, SqL.of h1, ?_, fun k hk hle => ?_⟩
      · cases ns with
        | nil => cases hm
        | cons _ _ => simp
      · cases ns with
        | nil => cases hm
        | cons n ns =>
          cases hm
          obtain ⟨g1, g2, g3⟩ := foldl_max_ge ns n
          have e1 : k = ns.foldl Max.max n := by
            apply Int.le_antisymm
            · rcases List.mem_cons.mp hk with rfl | hk
              · exact g1
              · exact g2 k hk
            · rcases g3 with g3 | g3
              · rw [g3]; exact hle n (List.Mem.head _)
              · exact hle _ (List.Mem.tail _ g3)
          rw [e1]
          exact q F H _ R .refl (show Is G F (.int _) (.int _) from Is.int_of)
    · cases hw
  · cases hw
/-- a built-in of one argument, by its name -/
theorem prim_fin {p : Prim} {Q : VK} (h : RT G Wx (bnd m fun x => bnd (rd x) fun s => optM (prim1 p s)) σ H Q) : tCons (RT G Wx m) tNil σ H (fun vs H1 => ∃ x, vs = [x] ∧ OK1 G (prim1 p) x H1 Q) := by
  obtain ⟨F, e, R, h⟩ := h
  refine RT.mono (Ex.rt R .refl rfl h) fun v H1 ⟨F1, e1, w1, R1, s1, a1, t1, r1, h1⟩ => ?_
  obtain ⟨sx, hx, h2⟩ := h1.rd R1 r1
  obtain ⟨w, hw, h2⟩ := h2.optL
  exact ⟨v, rfl, F1, e1, σ, sx, w, R1, hx, hw, fun F' H' u R' S' r' => h2 F' H' R' (Step.to (A := ⟨F, e, H⟩) a1 t1 S') t1 u (r'.early fun z hz => s1.th z hz)⟩
def notStar : Expr → Bool
  | .Starred _ _ => false
  | _ => true
theorem notStar_of (h : notStar x = true) : ∀ z p, x ≠ .Starred z p := fun z p q => by subst q; cases h
theorem star1 {env : PySem.Env} (h : notStar x = true) : (backTo pos (starEach ([] : List Expr) env)).any (·.1) = false := rfl
def prim1B (X : Cx) (n : Str) : Prop := Gl X n ∧ X.mg n = none
theorem se_len {p : Pos} (hG : G.K = X.K) (hg : Gl X "len") (hm : X.mg "len" = none) (hx : PE X x (RT G Wx m)) (hs : notStar x = true) : PE X (.Call (.Name "len" p) [x] [] pos) (RT G Wx (bnd m fun x => bnd (rd x) fun s => optM (prim1 .len s))) :=
  PE.imp (pe_callB (CallR.len (G := G) hG) hg hm boot_len (pa_cons hx pa_nil (starEach_of (notStar_of hs))) (by decide) (by decide) (starEach_of (notStar_of hs)) rfl) fun _ _ _ h => prim_fin h
theorem se_list {p : Pos} (hG : G.K = X.K) (hg : Gl X "list") (hm : X.mg "list" = none) (hx : PE X x (RT G Wx m)) (hs : notStar x = true) : PE X (.Call (.Name "list" p) [x] [] pos) (RT G Wx (bnd m fun x => bnd (rd x) fun s => optM (prim1 .list s))) :=
  PE.imp (pe_callTy (CallR.list (G := G) hG) hg hm (by decide +kernel) (pa_cons hx pa_nil (starEach_of (notStar_of hs))) (by decide) (by decide) (starEach_of (notStar_of hs)) rfl) fun _ _ _ h => prim_fin h
theorem se_tuple {p : Pos} (hG : G.K = X.K) (hg : Gl X "tuple") (hm : X.mg "tuple" = none) (hx : PE X x (RT G Wx m)) (hs : notStar x = true) : PE X (.Call (.Name "tuple" p) [x] [] pos) (RT G Wx (bnd m fun x => bnd (rd x) fun s => optM (prim1 .tuple s))) :=
  PE.imp (pe_callTy (CallR.tuple (G := G) hG) hg hm (by decide +kernel) (pa_cons hx pa_nil (starEach_of (notStar_of hs))) (by decide) (by decide) (starEach_of (notStar_of hs)) rfl) fun _ _ _ h => prim_fin h
theorem se_int {p : Pos} (hg : Gl X "int") (hm : X.mg "int" = none) (hx : PE X x (RT G Wx m)) (hs : notStar x = true) : PE X (.Call (.Name "int" p) [x] [] pos) (RT G Wx (bnd m fun x => bnd (rd x) fun s => optM (prim1 .int s))) :=
  PE.imp (pe_callTy (CallR.int (G := G)) hg hm (by decide +kernel) (pa_cons hx pa_nil (starEach_of (notStar_of hs))) (by decide) (by decide) (starEach_of (notStar_of hs)) rfl) fun _ _ _ h => prim_fin h
theorem se_sorted {p : Pos} (hG : G.K = X.K) (hu : X.A.units + 200 < cLine) (hg : Gl X "sorted") (hm : X.mg "sorted" = none) (hx : PE X x (RT G Wx m)) (hs : notStar x = true) : PE X (.Call (.Name "sorted" p) [x] [] pos) (RT G Wx (bnd m fun x => bnd (rd x) fun s => optM (prim1 .sorted s))) :=
  PE.imp (pe_callB (CallR.sorted (G := G) hG hu) hg hm (by decide +kernel) (pa_cons hx pa_nil (starEach_of (notStar_of hs))) (by decide) (by decide) (starEach_of (notStar_of hs)) rfl) fun _ _ _ h => prim_fin h
theorem se_max {p : Pos} (hG : G.K = X.K) (hc : X.calm = true) (hg : Gl X "max") (hm : X.mg "max" = none) (hx : PE X x (RT G Wx m)) (hs : notStar x = true) : PE X (.Call (.Name "max" p) [x] [] pos) (RT G Wx (bnd m fun x => bnd (rd x) fun s => optM (prim1 .max s))) :=
  PE.imp (pe_callB (CallR.max (G := G) hG hc) hg hm (by decide +kernel) (pa_cons hx pa_nil (starEach_of (notStar_of hs))) (by decide) (by decide) (starEach_of (notStar_of hs)) rfl) fun _ _ _ h => prim_fin h
def prim2M (p : Prim) (ma mb : M W) : M W := bnd ma fun x => bnd mb fun y => bnd (rd x) fun s => bnd (rd y) fun t => optM (primb p s t)
theorem se_max2 {p : Pos} (hc : X.calm = true) (hg : Gl X "max") (hm : X.mg "max" = none) (ha : PE X a (RT G Wx ma)) (hb : PE X b (RT G Wx mb)) (hs : notStar a = true) (hs2 : notStar b = true) : PE X (.Call (.Name "max" p) [a, b] [] pos) (RT G Wx (prim2M .max2 ma mb)) := by
  refine PE.imp (pe_callB (call_max2 hc) hg hm (by decide +kernel) (pa_cons ha (pa_cons hb pa_nil (starEach_of (notStar_of hs2))) (starEach_of (notStar_of hs))) (by decide) (by decide) (starEach_of (notStar_of hs)) (by rw [starEach_of (notStar_of hs2)]; rfl)) fun σ H Q h => ?_
  obtain ⟨F, e, R, h⟩ := h
  refine RT.mono (Ex.rt R .refl rfl h) fun v H1 ⟨F1, e1, w1, R1, s1, a1, t1, r1, h1⟩ => ?_
  refine RT.mono (Ex.rt R1 a1 t1 h1) fun u H2 ⟨F2, e2, w2, R2, s2, a2, t2, r2, h2⟩ => ?_
  obtain ⟨sx, hx, h2⟩ := h2.rd R2 (r1.step R1 s2)
  obtain ⟨sy, hy, h2⟩ := h2.rd R2 r2
  obtain ⟨w, hw, h2⟩ := h2.optL
  obtain ⟨q, hq, hw⟩ := Option.map_eq_some_iff.mp (show (ints2 sx sy).map _ = some w from hw)
  obtain ⟨e1, e2⟩ := ints2_of hx hy hq
  subst hw
  exact ⟨q.1, q.2, by rw [e1, e2], h2 F2 H2 R2 a2 t2 _ (show Is G F2 (.int _) (.int _) from Is.int_of)⟩
def joinM (ma mb : M W) : M W := bnd ma fun x => match x with
  | .d (.str s) => bnd mb fun y => bnd (rd y) fun t => optM (joined s t)
  | _ => bad
theorem str_len_append (x y : Str) : (x ++ y).length = x.length + y.length := by
  show (x.cps ++ y.cps).size = _
  rw [Array.size_append]; rfl
theorem len_tl (x : Str) : (TL.tl x).length = x.length := Array.length_toList ..
theorem joinL_length (S : List Nat) : ∀ l : List (List Nat), (TL.joinL S l).length ≤ (l.map (·.length)).sum + l.length * S.length
  | [] => by unfold TL.joinL; simp
  | [a] => by unfold TL.joinL; simp
  | a :: b :: r => by
    have ih := joinL_length S (b :: r)
    unfold TL.joinL
    simp only [List.length_append, List.map_cons, List.sum_cons, List.length_cons] at ih ⊢
    rw [Nat.add_mul, Nat.one_mul] at ih ⊢
    rw [Nat.add_mul, Nat.one_mul]
    omega
theorem join_length (s : Str) (ys : List Str) : (Txt.join s ys).length ≤ (ys.map (·.length)).sum + ys.length * s.length := by
  rw [TL.join_eq, ← len_tl, TL.tl_join]
  refine Nat.le_trans (joinL_length _ _) ?_
  rw [len_tl, List.length_map, List.map_map]
  have e : ((fun x : List Nat => x.length) ∘ TL.tl) = fun x : Str => x.length := by
    funext x; exact len_tl x
  rw [e]
  exact Nat.le_refl _
theorem se_join {apos : Pos} (hG : G.K = X.K) (ha : PE X a (RT G Wx ma)) (hb : PE X b (RT G Wx mb)) (hs : notStar b = true) (hbase : attributeBase a "join" X.env (eval a X.env) = eval a X.env) (hline : (apos.endLine == pos.line) = true) :
    PE X (.Call (.Attribute a "join" apos) [b] [] pos) (RT G Wx (joinM ma mb)) := by
  refine PE.imp (pe_join ha hb (starEach_of (notStar_of hs)) hbase hline) fun σ H Q h => ?_
  obtain ⟨F, e, R, h⟩ := h
  refine RT.mono (Ex.rt R .refl rfl h) fun v H1 ⟨F1, e1, w1, R1, s1, a1, t1, r1, h1⟩ => ?_
  cases w1 with
  | new c => exact h1.elim
  | at_ i => exact h1.elim
  | d z =>
    cases z with
    | str sx =>
      obtain ⟨ev, hl⟩ := Is.str_v (H := H1) r1
      refine ⟨⟨sx, ev⟩, RT.mono (Ex.rt R1 a1 t1 h1) fun u H2 ⟨F2, e2, w2, R2, s2, a2, t2, r2, h2⟩ => ?_⟩
      obtain ⟨sy, hy, h2⟩ := h2.rd R2 r2
      obtain ⟨w, hw, h2⟩ := h2.optL
      unfold joined at hw
      split at hw
      · rename_i xs hxs
        split at hw
        · rename_i ys hys
          split at hw
          · rename_i hl2
            cases hw
            obtain ⟨p, vs, ep, k1, k2⟩ := seq_of R2 hy hxs
            have ez := strs_v k2 hys
            subst ez ep
            refine ⟨sx, p, ys, ev, rfl, hG ▸ seqV k1, hl2, h2 F2 H2 R2 a2 t2 _ (show Is G F2 (.str _) (.str _) from Is.str_of (Nat.le_trans (join_length _ _) hl2))⟩
          · cases hw
        · cases hw
      · cases hw
    | _ => exact h1.elim

/-! ### isinstance -/
def tyN : Ty → Option (Str × String)
  | .int => some ("int", "int") | .bool => some ("bool", "bool") | .str => some ("str", "str") | .tuple => some ("tuple", "tuple") | .list => some ("list", "list")
  | .cls _ _ => none
def tagS : Sl → String
  | .d .non => "NoneType" | .d (.bl _) => "bool" | .d (.int _) => "int" | .d (.str _) => "str" | .d (.tup _) => "tuple" | .d (.lst _ _) => "list" | .own (.lst _) => "list"
  | _ => ""
def clsS : Sl → Option Nat
  | .d (.obj c _ _) => some c
  | .own (.obj c _ _) => some c
  | _ => none
def tagV (G : Gx) (s : Sl) : Value := match clsS s with
  | some c => .ref (G.ca c)
  | none => .type (tagS s)
def tyV' (G : Gx) : Ty → Value
  | .int => .type "int" | .bool => .type "bool" | .str => .type "str" | .tuple => .type "tuple" | .list => .type "list"
  | .cls c _ => .ref (G.ca c)
/-- what isinstance asks of the own classes -/
structure KitF (G : Gx) : Prop where
  cl : ∀ c, G.ck c → Cls G.K (G.ca c)
  ha : ∀ c, G.ck c → PySem.W.findIn G.K (.ref (G.ca c)) "__class__" = some (some (.builtin "object.__class__"))
  hn : PySem.W.specialIn G.K (.builtin "object.__class__") "__get__" = some (some (.builtin "getset_descriptor.__get__"))
  htk : PySem.W.takesIn G.K (.builtin "object.__class__") = some true
  hm : ∀ c, G.ck c → PySem.W.mroIn G.K (G.ca c) (.type "object") = some true
  ct : ∀ c n, G.ck c → n ∈ ["int", "bool", "str", "tuple", "list"] → PySem.W.kitOne G.K (.ref (G.ca c)) (.type n) = some false
def TyF (G : Gx) : Ty → Prop
  | .cls c subs => (∀ n ∈ ["NoneType", "int", "bool", "str", "tuple", "list"], PySem.W.kitOne G.K (.type n) (.ref (G.ca c)) = some false) ∧ ∀ c', G.ck c' → PySem.W.kitOne G.K (.ref (G.ca c')) (.ref (G.ca c)) = some (subs.contains c')
  | _ => True
theorem tyx_of (KF : KitF G) (R : Rel G F e σ H) (h : SlRel G F H s v) (ok : tyOk s = true) : TyX G.K H v (tagV G s) ∧ (∀ c, clsS s = some c → G.ck c) := by
  cases s with
  | own c =>
    cases c with
    | lst xs =>
      obtain ⟨a, vs, e1, h1, _⟩ := lst_of R h rfl
      subst e1
      exact ⟨.base (.lst h1), fun _ z => nomatch z⟩
    | obj c ns xs =>
      obtain ⟨a, e1, _, dx, vs, h1, ⟨_, hc⟩, _⟩ := h
      subst e1
      exact ⟨.base (.ins h1 (KF.cl c hc) (KF.ha c hc) KF.hn KF.htk (KF.hm c hc)), fun _ z => by cases z; exact hc⟩
  | d z =>
    cases z with
    | non => rw [Is.non_v h]; exact ⟨.base .non, fun _ z => nomatch z⟩
    | bl b => rw [Is.bl_v h]; exact ⟨.base (.bl b), fun _ z => nomatch z⟩
    | int b => rw [Is.int_v h]; exact ⟨.base (.int b), fun _ z => nomatch z⟩
    | str b => rw [(Is.str_v h).1]; exact ⟨.base (.str b), fun _ z => nomatch z⟩
    | tup xs =>
      obtain ⟨a, vs, e1, h1, _⟩ := tup_of R h
      subst e1
      refine ⟨?_, fun _ z => nomatch z⟩
      rcases h1 with (h1 | ⟨o, h1⟩) | ⟨o, its, n, h1, h2, _⟩
      · exact .base (.tup h1)
      · exact .fTuple h1
      · exact .kTuple h1 h2
    | lst t xs =>
      obtain ⟨a, vs, e1, h1, _⟩ := lst_of R h rfl
      subst e1
      exact ⟨.base (.lst h1), fun _ z => nomatch z⟩
    | obj c ns xs =>
      have h : Is G F (.obj c ns xs) v := h
      rw [Is] at h
      obtain ⟨a, dx, vs, e1, h1, ⟨_, hc⟩, _⟩ := h
      subst e1
      exact ⟨.base (.ins (R.sub _ _ h1) (KF.cl c hc) (KF.ha c hc) KF.hn KF.htk (KF.hm c hc)), fun _ z => by cases z; exact hc⟩
    | scr _ => cases ok
theorem kit_ok (KF : KitF G) {ty : Ty} (TF : TyF G ty) (hc : ∀ c, clsS s = some c → G.ck c) (ok : tyOk s = true) : PySem.W.kitOne G.K (tagV G s) (tyV' G ty) = some (isTy s ty) := by
  cases ty with
  | cls c subs =>
    cases s with
    | own z =>
      cases z with
      | lst xs => exact TF.1 "list" (by decide)
      | obj c' ns xs => exact TF.2 c' (hc c' rfl)
    | d z =>
      cases z with
      | non => exact TF.1 "NoneType" (by decide)
      | bl b => exact TF.1 "bool" (by decide)
      | int b => exact TF.1 "int" (by decide)
      | str b => exact TF.1 "str" (by decide)
      | tup xs => exact TF.1 "tuple" (by decide)
      | lst t xs => exact TF.1 "list" (by decide)
      | obj c' ns xs => exact TF.2 c' (hc c' rfl)
      | scr _ => cases ok
  | int =>
    cases s with
    | own z => cases z with
      | lst xs => exact kit_ty (show kitB "list" "int" = some false by decide +kernel)
      | obj c' ns xs => exact KF.ct c' "int" (hc c' rfl) (by decide)
    | d z => cases z with
      | obj c' ns xs => exact KF.ct c' "int" (hc c' rfl) (by decide)
      | scr _ => cases ok
      | non  => exact kit_ty (show kitB "NoneType" "int" = some false by decide +kernel)
      | bl b => exact kit_ty (show kitB "bool" "int" = some true by decide +kernel)
      | int b => exact kit_ty (show kitB "int" "int" = some true by decide +kernel)
      | str b => exact kit_ty (show kitB "str" "int" = some false by decide +kernel)
      | tup xs => exact kit_ty (show kitB "tuple" "int" = some false by decide +kernel)
      | lst t xs => exact kit_ty (show kitB "list" "int" = some false by decide +kernel)
  | bool =>
    cases s with
    | own z => cases z with
      | lst xs => exact kit_ty (show kitB "list" "bool" = some false by decide +kernel)
      | obj c' ns xs => exact KF.ct c' "bool" (hc c' rfl) (by decide)
    | d z => cases z with
      | obj c' ns xs => exact KF.ct c' "bool" (hc c' rfl) (by decide)
      | scr _ => cases ok
      | non  => exact kit_ty (show kitB "NoneType" "bool" = some false by decide +kernel)
      | bl b => exact kit_ty (show kitB "bool" "bool" = some true by decide +kernel)
      | int b => exact kit_ty (show kitB "int" "bool" = some false by decide +kernel)
      | str b => exact kit_ty (show kitB "str" "bool" = some false by decide +kernel)
      | tup xs => exact kit_ty (show kitB "tuple" "bool" = some false by decide +kernel)
      | lst t xs => exact kit_ty (show kitB "list" "bool" = some false by decide +kernel)
  | str =>
    cases s with
    | own z => cases z with
      | lst xs => exact kit_ty (show kitB "list" "str" = some false by decide +kernel)
      | obj c' ns xs => exact KF.ct c' "str" (hc c' rfl) (by decide)
    | d z => cases z with
      | obj c' ns xs => exact KF.ct c' "str" (hc c' rfl) (by decide)
      | scr _ => cases ok
      | non  => exact kit_ty (show kitB "NoneType" "str" = some false by decide +kernel)
      | bl b => exact kit_ty (show kitB "bool" "str" = some false by decide +kernel)
      | int b => exact kit_ty (show kitB "int" "str" = some false by decide +kernel)
      | str b => exact kit_ty (show kitB "str" "str" = some true by decide +kernel)
      | tup xs => exact kit_ty (show kitB "tuple" "str" = some false by decide +kernel)
      | lst t xs => exact kit_ty (show kitB "list" "str" = some false by decide +kernel)
  | tuple =>
    cases s with
    | own z => cases z with
      | lst xs => exact kit_ty (show kitB "list" "tuple" = some false by decide +kernel)
      | obj c' ns xs => exact KF.ct c' "tuple" (hc c' rfl) (by decide)
    | d z => cases z with
      | obj c' ns xs => exact KF.ct c' "tuple" (hc c' rfl) (by decide)
      | scr _ => cases ok
      | non  => exact kit_ty (show kitB "NoneType" "tuple" = some false by decide +kernel)
      | bl b => exact kit_ty (show kitB "bool" "tuple" = some false by decide +kernel)
      | int b => exact kit_ty (show kitB "int" "tuple" = some false by decide +kernel)
      | str b => exact kit_ty (show kitB "str" "tuple" = some false by decide +kernel)
      | tup xs => exact kit_ty (show kitB "tuple" "tuple" = some true by decide +kernel)
      | lst t xs => exact kit_ty (show kitB "list" "tuple" = some false by decide +kernel)
  | list =>
    cases s with
    | own z => cases z with
      | lst xs => exact kit_ty (show kitB "list" "list" = some true by decide +kernel)
      | obj c' ns xs => exact KF.ct c' "list" (hc c' rfl) (by decide)
    | d z => cases z with
      | obj c' ns xs => exact KF.ct c' "list" (hc c' rfl) (by decide)
      | scr _ => cases ok
      | non  => exact kit_ty (show kitB "NoneType" "list" = some false by decide +kernel)
      | bl b => exact kit_ty (show kitB "bool" "list" = some false by decide +kernel)
      | int b => exact kit_ty (show kitB "int" "list" = some false by decide +kernel)
      | str b => exact kit_ty (show kitB "str" "list" = some false by decide +kernel)
      | tup xs => exact kit_ty (show kitB "tuple" "list" = some false by decide +kernel)
      | lst t xs => exact kit_ty (show kitB "list" "list" = some true by decide +kernel)
theorem kitAny_ok (KF : KitF G) (hc : ∀ c, clsS s = some c → G.ck c) (ok : tyOk s = true) : ∀ ts : List Ty, (∀ t ∈ ts, TyF G t) → PySem.W.kitAny G.K (tagV G s) (ts.map (tyV' G)) = some (ts.any (isTy s))
  | [], _ => rfl
  | t :: ts, h => by
    have k := kit_ok KF (h t (List.Mem.head _)) hc ok
    refine kitAny_cons k (fun z => ?_) fun z => ?_
    · rw [List.any_cons, z, Bool.false_or]
      exact kitAny_ok KF hc ok ts fun t ht => h t (List.Mem.tail _ ht)
    · rw [List.any_cons, z, Bool.true_or]
def isinM (m : M W) (ts : List Ty) : M W := bnd m fun x => bnd (rd x) fun s => if tyOk s = true then ret (.d (.bl (ts.any (isTy s)))) else bad
end
end MV
/-! MVExp5: literals, isinstance, attributes, pop. -/
namespace MV
open PySem PySem.Spec L2

/-- an owned object is written -/
theorem Rel.upd_own {G : Gx} {F : Fz} {e : Env} {σ : L2.St} {H : Hp} {T i : Nat} {a : Addr} {c c' : Cell} {o : HO} (R : Rel G F e σ H) (q : e.get i = some (.own c)) (hs : σ[i]? = some (some (.ref a))) (hc : CellAt G F (upd H a o) a c') :
    Rel G F (e.set i (some (.own c'))) σ (upd H a o) ∧ Step T F e σ H F (e.set i (some (.own c'))) σ (upd H a o) := by
  have hl := Env.get_lt q
  have own : OwnA e σ a := ⟨i, c, q, hs⟩
  have keep : ∀ j c'', (e.set i (some (.own c'))).get j = some (.own c'') → ∃ c0, e.get j = some (.own c0) ∧ (j = i → c'' = c') ∧ (j ≠ i → c'' = c0) := fun j c'' qj => by
    rw [Env.get_set] at qj
    by_cases z : j = i
    · rw [if_pos ⟨z, hl⟩] at qj
      cases qj
      exact ⟨c, z ▸ q, fun _ => rfl, fun n => absurd z n⟩
    · rw [if_neg (fun w => z w.1)] at qj
      exact ⟨c'', qj, fun w => absurd w z, fun _ => rfl⟩
  refine ⟨⟨fun b u h => ?_, ?_, fun j x h => ?_, fun j c'' h => ?_, fun j k c1 c2 b h1 h2 h3 h4 => ?_, R.ept⟩, ⟨fun _ _ h _ => ⟨h, rfl⟩, fun b u h => .inl (by rw [h]; simp), fun b u h n _ => ?_, fun b ⟨j, c'', h, z⟩ => ?_, fun b h => ?_, Nat.le_refl _⟩⟩
  · have nb : b ≠ a := fun z => by rw [z, hc.1] at h; cases h
    rw [upd_ne nb]; exact R.sub b u h
  · show (e.sl.set i _).length = _
    rw [List.length_set]; exact R.len
  · rw [Env.get_set] at h
    split at h
    · cases h
    · exact R.dat j x h
  · obtain ⟨c0, h0, k1, k2⟩ := keep j c'' h
    by_cases z : j = i
    · rw [k1 z, z]
      exact ⟨a, hs, hc⟩
    · rw [k2 z]
      obtain ⟨b, h1, h2⟩ := R.own j c0 h0
      exact ⟨b, h1, h2.upd_ne fun w => z (R.dis j i c0 c a h0 q (w ▸ h1) hs)⟩
  · obtain ⟨d1, e1, _⟩ := keep j c1 h1
    obtain ⟨d2, e2, _⟩ := keep k c2 h2
    exact R.dis j k d1 d2 b e1 e2 h3 h4
  · have nb : b ≠ a := fun z => n (z ▸ own)
    rw [upd_ne nb]; exact h
  · obtain ⟨c0, h0, _⟩ := keep j c'' h
    exact .inl ⟨j, c0, h0, z⟩
  · by_cases z : b = a
    · rw [z, upd_same] at h; cases h
    · rw [upd_ne z] at h; exact h

section
variable {G : Gx} {F F' : Fz} {e e' : Env} {σ : L2.St} {H H' : Hp} {s t : Sl} {v w : V} {X : Cx} {Wx : L2.St → KW D} {m ma mb mc : M W} {a b c x y : Expr} {pos p p2 : Pos} {es : List Expr} {u : V}

/-! ### literals -/
def litOk : D → Expr → Bool
  | .int i, .Constant (.int j) _ _ => i == j
  | .int i, .UnaryOp .USub (.Constant (.int j) _ _) _ => i == -j
  | .bl k, .Constant (.bool l) _ _ => k == l
  | .str z, .Constant (.str y) _ _ => z == y && decide (z.length ≤ 16777216)
  | .non, .Constant .none _ _ => true
  | _, _ => false
theorem se_lit {d : D} (h : litOk d x = true) : PE X x (RT G Wx (ret (.d d))) := by
  unfold litOk at h
  split at h
  · rename_i i j k q
    have e1 : i = j := by simpa using h
    subst e1
    exact se_val pe_int fun F => Is.int_of
  · rename_i i j k q q2
    have e1 : i = -j := by simpa using h
    subst e1
    refine PE.imp (pe_un un_neg pe_int) fun σ H Q h => ?_
    obtain ⟨F, e, R, h⟩ := h
    exact ⟨j, rfl, h F H R .refl rfl _ (show Is G F (.int (-j)) _ from Is.int_of)⟩
  · rename_i i j k q
    have e1 : i = j := by simpa using h
    subst e1
    exact se_val pe_bl fun F => Is.bl_of
  · rename_i i j k q
    obtain ⟨h1, h2⟩ := Bool.and_eq_true_iff.mp h
    have e1 : i = j := by simpa using h1
    subst e1
    exact se_val pe_str fun F => Is.str_of (of_decide_eq_true h2)
  · exact se_val pe_non fun F => Is.non_of
  · cases h
/-- a module's constant -/
theorem se_glob {n : Str} {d : D} {u : V} {uv : Value} (hg : Gl X n) (hm : X.mg n = some uv) (r : RelV u uv) (k : ∀ F : Fz, Is G F d u) (hd : (n == ("__debug__" : Str)) = false) : PE X (.Name n pos) (RT G Wx (ret (.d d))) := se_val (pe_glob hg hm r hd) k

/-! ### isinstance -/
def tCs (us : List V) : TA := fun _ H Q => Q us H
theorem se_isin1 {ty : Ty} (KF : KitF G) (TF : TyF G ty) (hG : G.K = X.K) (hg : Gl X "isinstance") (hm : X.mg "isinstance" = none) (ha : PE X a (RT G Wx m)) (hs : notStar a = true) (hb : PE X b (tC u)) (hu : ClsV u (tyV' G ty)) (hsb : notStar b = true) :
    PE X (.Call (.Name "isinstance" p) [a, b] [] pos) (RT G Wx (isinM m [ty])) := by
  refine PE.imp (pe_callB call_isi hg hm (by decide +kernel) (pa_cons ha (pa_cons hb pa_nil (starEach_of (notStar_of hsb))) (starEach_of (notStar_of hs))) (by decide) (by decide) (starEach_of (notStar_of hs)) (by rw [starEach_of (notStar_of hsb)]; rfl)) fun σ H Q h => ?_
  obtain ⟨F, e, R, h⟩ := h
  refine RT.mono (Ex.rt R .refl rfl h) fun v H1 ⟨F1, e1, w1, R1, s1, a1, t1, r1, h1⟩ => ?_
  obtain ⟨sx, hx, h2⟩ := h1.rd R1 r1
  split at h2
  · rename_i ok
    obtain ⟨k1, k2⟩ := tyx_of KF R1 hx ok
    have k3 := kit_ok KF TF k2 ok
    have e0 : [ty].any (isTy sx) = isTy sx ty := by simp
    rw [e0] at h2
    exact ⟨v, u, _, _, isTy sx ty, rfl, hu, hG ▸ k1, hG ▸ k3, Ex.ret h2 F1 H1 R1 a1 t1 _ (show Is G F1 (.bl _) (.bl _) from Is.bl_of)⟩
  · exact h2.elim
theorem pa_cs : ∀ {es : List Expr} {us : List V}, (es.all notStar = true) → PySem.Paired (fun e u => PE X e (tC u)) es us → PA X es (tCs us)
  | [], _, _, .nil => PA.imp pa_nil fun _ _ _ h => h
  | e :: es, _, hs, .cons h t => by
    rw [List.all_cons] at hs
    obtain ⟨h1, h2⟩ := Bool.and_eq_true_iff.mp hs
    exact PA.imp (pa_cons h (pa_cs h2 t) (starEach_of (notStar_of h1))) fun _ _ _ h => h
theorem se_isinT {tys : List Ty} {us : List V} {ks : Nat} (KF : KitF G) (TF : ∀ t ∈ tys, TyF G t) (hG : G.K = X.K) (hg : Gl X "isinstance") (hm : X.mg "isinstance" = none) (ha : PE X a (RT G Wx m)) (hs : notStar a = true)
    (he : PySem.Paired (fun e u => PE X e (tC u)) es us) (hes : es.all notStar = true) (hu : PySem.Paired ClsV us (tys.map (tyV' G))) (hl : us.length ≤ 16777216) :
    PE X (.Call (.Name "isinstance" p) [a, .Tuple es ks p2] [] pos) (RT G Wx (isinM m tys)) := by
  refine PE.imp (pe_callB call_isiT hg hm (by decide +kernel) (pa_cons ha (pa_cons (pe_tup (pa_cs hes he)) pa_nil rfl) (starEach_of (notStar_of hs))) (by decide) (by decide) (starEach_of (notStar_of hs)) rfl) fun σ H Q h => ?_
  obtain ⟨F, e, R, h⟩ := h
  refine RT.mono (Ex.rt R .refl rfl h) fun v H1 ⟨F1, e1, w1, R1, s1, a1, t1, r1, h1⟩ => ?_
  refine ⟨by rw [sizeLine_eq]; exact hl, fun q hq => ?_⟩
  obtain ⟨R2, s2⟩ := R1.alloc (o := .tup us) hq
  obtain ⟨sx, hx, h2⟩ := h1.rd R2 (r1.step R1 s2)
  split at h2
  · rename_i ok
    obtain ⟨k1, k2⟩ := tyx_of KF R2 hx ok
    have k3 := kitAny_ok KF k2 ok tys TF
    exact ⟨v, q, us, _, _, _, rfl, upd_same, hu, hG ▸ k1, hG ▸ k3, Ex.ret h2 F1 _ R2 (Step.to (A := ⟨F, e, H⟩) a1 t1 s2) t1 _ (show Is G F1 (.bl _) (.bl _) from Is.bl_of)⟩
  · exact h2.elim

/-! ### attributes -/
theorem fld_of {f : Nat} (inj : ∀ i j, G.fname i = G.fname j → i = j) : ∀ {ns : List Nat} {xs : List D} {vs : List V} {d : D}, ns.length = xs.length → IsL G F xs vs → fldAt f ns xs = some d → ∃ v, ((ns.map G.fname).zip vs).lookup (G.fname f) = some v ∧ Is G F d v
  | [], _, _, _, _, _, h => by simp [fldAt] at h
  | n :: ns, [], _, _, _, _, h => by simp [fldAt] at h
  | n :: ns, x :: xs, vs, d, hl, hi, h => by
    rw [IsL] at hi
    obtain ⟨v, r, rfl, h1, h2⟩ := hi
    rw [fldAt] at h
    by_cases c : n = f
    · rw [if_pos c] at h
      cases h
      refine ⟨v, ?_, h1⟩
      rw [List.map_cons, List.zip_cons_cons, List.lookup_cons, c]
      simp
    · rw [if_neg c] at h
      obtain ⟨v', h3, h4⟩ := fld_of inj (by simpa using hl) h2 h
      refine ⟨v', ?_, h4⟩
      rw [List.map_cons, List.zip_cons_cons, List.lookup_cons]
      have : (G.fname f == G.fname n) = false := by
        rw [beq_eq_false_iff_ne]
        intro z
        exact c (inj _ _ z).symm
      rw [this]
      exact h3
/-- what the attributes of the own classes need -/
structure AttrF (G : Gx) : Prop where
  inj : ∀ i j, G.fname i = G.fname j → i = j
  cl : ∀ c, G.ck c → Cls G.K (G.ca c)
def FldF (G : Gx) (f : Nat) : Prop := ∀ c, G.ck c → NoAttr G.K (G.ca c) (G.fname f)
theorem obj_of {c : Nat} {ns : List Nat} {xs : List D} (R : Rel G F e σ H) (h : SlRel G F H s v) (q : objOf s = some (c, ns, xs)) : ∃ a dx vs, v = .ref a ∧ H a = some (.ins (G.ca c) dx ((ns.map G.fname).zip vs)) ∧ ns.length = xs.length ∧ G.ck c ∧ IsL G F xs vs := by
  cases s with
  | d z =>
    cases z with
    | obj c' ns' xs' =>
      cases q
      have h : Is G F (.obj c ns xs) v := h
      rw [Is] at h
      obtain ⟨a, dx, vs, e1, h1, ⟨h2, h4⟩, h3⟩ := h
      exact ⟨a, dx, vs, e1, R.sub _ _ h1, h2, h4, h3⟩
    | _ => cases q
  | own z =>
    cases z with
    | lst _ => cases q
    | obj c' ns' xs' =>
      cases q
      obtain ⟨a, e1, _, dx, vs, h1, ⟨h2, h4⟩, h3⟩ := h
      exact ⟨a, dx, vs, e1, h1, h2, h4, h3⟩
def attrM (m : M W) (f : Nat) : M W := bnd m fun x => bnd (rd x) fun s => match objOf s with
    | some (_, ns, xs) => bnd (optM (fldAt f ns xs)) fun d => ret (.d d)
    | none => bad
def superB : Expr → Bool
  | .Call (.Name _ _) [] [] _ => false
  | _ => true
theorem abase_of (h : superB x = true) {n : Str} {env : PySem.Env} : attributeBase x n env (eval x env) = eval x env := by
  unfold attributeBase
  split
  · cases h
  · rfl
theorem se_attr {f : Nat} {n : Str} (AF : AttrF G) (FF : FldF G f) (hn : G.fname f = n) (hG : G.K = X.K) (ha : PE X a (RT G Wx m)) (hb : superB a = true) : PE X (.Attribute a n pos) (RT G Wx (attrM m f)) := by
  subst hn
  refine PE.imp (pe_fld ha (abase_of hb)) fun σ H Q h => ?_
  obtain ⟨F, e, R, h⟩ := h
  refine RT.mono (Ex.rt R .refl rfl h) fun v H1 ⟨F1, e1, w1, R1, s1, a1, t1, r1, h1⟩ => ?_
  obtain ⟨sx, hx, h2⟩ := h1.rd R1 r1
  split at h2
  · rename_i c ns xs hq
    obtain ⟨d, hd, h2⟩ := h2.opt
    obtain ⟨ad, dx, vs, e1, k1, k2, k3, k4⟩ := obj_of R1 hx hq
    obtain ⟨z, hz, iz⟩ := fld_of AF.inj k2 k4 hd
    exact ⟨ad, _, dx, _, z, e1, k1, hG ▸ AF.cl c k3, hG ▸ FF c k3, hz, Ex.ret h2 F1 H1 R1 a1 t1 z iz⟩
  · exact h2.elim
/-- C.f, a constant of a class -/
theorem se_cval {C : Addr} {mc : Value} {f n : Str} {d : D} {uv : Value} (hg : Gl X n) (hm : X.mg n = some (.ref C)) (hd : (n == ("__debug__" : Str)) = false) (cr : ClX.CRead X.K C mc) (cv : ClX.CVal X.K C mc f u uv) (k : ∀ F : Fz, Is G F d u) :
    PE X (.Attribute (.Name n p) f pos) (RT G Wx (ret (.d d))) := by
  refine PE.imp (ClX.pe_cval (pe_glob (v := .ref C) hg hm rfl hd) (abase_of rfl)) fun σ H Q h => ?_
  obtain ⟨F, e, R, h⟩ := h
  exact ⟨C, mc, u, uv, rfl, cr, cv, h F H R .refl rfl u (k F)⟩

/-! ### pop -/
theorem dropLast_of {xs : List D} {vs : List V} {d : D} (h : IsL G F xs vs) (q : xs.getLast? = some d) : ∃ z, vs[vs.length - 1]? = some z ∧ Is G F d z := by
  rw [List.getLast?_eq_getElem?] at q
  rw [h.length]
  exact h.get q
theorem se_pop {i : Nat} {n : Str} {I : Info} {P : Phi} {apos : Pos} (hN : X.N[i]? = some n) (hv : Vis X.env.scope n) (hd : (n == ("__debug__" : Str)) = false) (hcd : (n == ("__classdict__" : Str)) = false) (hline : (apos.endLine == pos.line) = true) :
    PE X (.Call (.Attribute (.Name n p) "pop" apos) [] [] pos) (RT G Wx (ev I P (.pop i))) := by
  refine PE.imp (pe_bm0 PySem.F.plainAttrs_list PySem.F.slot_list_pop PySem.F.type_list_pop mt_pop (pe_var hN hv hd hcd) (abase_of rfl) hline) fun σ H Q h => ?_
  obtain ⟨F, e, R, h⟩ := h
  unfold Ex at h
  rw [ev] at h
  dsimp only at h
  cases q : e.get i with
  | none => rw [q] at h; exact h.elim
  | some sl =>
    rw [q] at h
    cases sl with
    | d z => exact h.elim
    | own c =>
      cases c with
      | obj _ _ _ => exact h.elim
      | lst xs =>
        dsimp only at h
        cases q2 : xs.getLast? with
        | none => rw [q2] at h; exact h.elim
        | some d =>
          rw [q2] at h
          dsimp only at h
          obtain ⟨ad, k1, k2⟩ := R.own i _ q
          obtain ⟨k3, vs, k4, k5⟩ := k2
          obtain ⟨z, hz, iz⟩ := dropLast_of k5 q2
          refine ⟨_, k1, .inl ⟨rfl, vs, SqL.of k4⟩, ad, vs, z, rfl, rfl, k4, hz, ?_⟩
          obtain ⟨R', s'⟩ := R.upd_own (T := e.t) (c' := .lst xs.dropLast) (o := .lst vs.dropLast) q k1 ⟨k3, vs.dropLast, upd_same, k5.dropLast⟩
          exact h F _ R' s' rfl z iz
end
end MV
/-! MVCall: calls of own functions. -/
namespace MV
open PySem PySem.Spec L2

section
variable {G : Gx} {F F' : Fz} {e e' : Env} {σ : L2.St} {H H' : Hp} {s t : Sl} {v w : V} {X : Cx} {Wx : L2.St → KW D} {m ma mb mc : M W} {a b c x y : Expr} {pos p p2 : Pos} {es : List Expr} {u : V} {P : Phi} {f : Nat}

/-! ### arguments -/
def AVs (G : Gx) (F : Fz) (σ : L2.St) : List AV → List V → Prop
  | [], vs => vs = []
  | .d x :: r, vs => ∃ v t, vs = v :: t ∧ Is G F x v ∧ AVs G F σ r t
  | .r i :: r, vs => ∃ v t, vs = v :: t ∧ σ[i]? = some (some v) ∧ AVs G F σ r t
theorem AVs.mono (m : Fle F F') : ∀ {as : List AV} {vs : List V}, AVs G F σ as vs → AVs G F' σ as vs
  | [], _, h => h
  | .d x :: r, vs, h => by
    obtain ⟨v, t, e, h1, h2⟩ := h
    exact ⟨v, t, e, h1.mono m, h2.mono m⟩
  | .r i :: r, vs, h => by
    obtain ⟨v, t, e, h1, h2⟩ := h
    exact ⟨v, t, e, h1, h2.mono m⟩
theorem AVs.length : ∀ {as : List AV} {vs : List V}, AVs G F σ as vs → vs.length = as.length
  | [], _, h => by rw [show _ = [] from h]; rfl
  | .d x :: r, vs, h => by
    obtain ⟨v, t, e, h1, h2⟩ := h
    rw [e, List.length_cons, h2.length]; rfl
  | .r i :: r, vs, h => by
    obtain ⟨v, t, e, h1, h2⟩ := h
    rw [e, List.length_cons, h2.length]; rfl
theorem AVs.getD : ∀ {as : List AV} {vs : List V} {i : Nat} {x : D}, AVs G F σ as vs → as[i]? = some (.d x) → ∃ v, vs[i]? = some v ∧ Is G F x v
  | [], _, _, _, _, q => by simp at q
  | .d y :: r, vs, i, x, h, q => by
    obtain ⟨v, t, rfl, h1, h2⟩ := h
    cases i with
    | zero => simp at q; subst q; exact ⟨v, rfl, h1⟩
    | succ i => exact AVs.getD (i := i) h2 (by simpa using q)
  | .r j :: r, vs, i, x, h, q => by
    obtain ⟨v, t, rfl, h1, h2⟩ := h
    cases i with
    | zero => simp at q
    | succ i => exact AVs.getD (i := i) h2 (by simpa using q)
theorem AVs.getR : ∀ {as : List AV} {vs : List V} {i j : Nat}, AVs G F σ as vs → as[i]? = some (.r j) → ∃ v, vs[i]? = some v ∧ σ[j]? = some (some v)
  | [], _, _, _, _, q => by simp at q
  | .d y :: r, vs, i, j, h, q => by
    obtain ⟨v, t, rfl, h1, h2⟩ := h
    cases i with
    | zero => simp at q
    | succ i => exact AVs.getR (i := i) h2 (by simpa using q)
  | .r j' :: r, vs, i, j, h, q => by
    obtain ⟨v, t, rfl, h1, h2⟩ := h
    cases i with
    | zero => simp at q; subst q; exact ⟨v, rfl, h1⟩
    | succ i => exact AVs.getR (i := i) h2 (by simpa using q)
theorem argSl_length : ∀ {as : List AV} {sls : List Sl}, argSl e as = some sls → sls.length = as.length
  | [], sls, h => by cases h; rfl
  | .d x :: r, sls, h => by
    obtain ⟨t, h1, h2⟩ := Option.map_eq_some_iff.mp (show (argSl e r).map (.d x :: ·) = some sls from h)
    rw [← h2, List.length_cons, argSl_length h1]; rfl
  | .r i :: r, sls, h => by
    unfold argSl at h
    split at h
    · obtain ⟨t, h1, h2⟩ := Option.map_eq_some_iff.mp h
      rw [← h2, List.length_cons, argSl_length h1]; rfl
    · cases h
theorem argSl_get : ∀ {as : List AV} {sls : List Sl} {i : Nat} {s : Sl}, argSl e as = some sls → sls[i]? = some s →
    (∃ x, as[i]? = some (AV.d x) ∧ s = .d x) ∨ ∃ j c, as[i]? = some (AV.r j) ∧ e.get j = some (.own c) ∧ s = .own c
  | [], sls, _, _, h, q => by cases h; simp at q
  | .d x :: r, sls, i, s, h, q => by
    obtain ⟨t, h1, h2⟩ := Option.map_eq_some_iff.mp (show (argSl e r).map (.d x :: ·) = some sls from h)
    subst h2
    cases i with
    | zero => simp at q; exact .inl ⟨x, rfl, q.symm⟩
    | succ i => exact argSl_get (i := i) h1 (by simpa using q)
  | .r j :: r, sls, i, s, h, q => by
    unfold argSl at h
    split at h
    · rename_i c hc
      obtain ⟨t, h1, h2⟩ := Option.map_eq_some_iff.mp h
      subst h2
      cases i with
      | zero => simp at q; exact .inr ⟨j, c, rfl, hc, q.symm⟩
      | succ i => exact argSl_get (i := i) h1 (by simpa using q)
    · cases h
theorem argSl_ref : ∀ {as : List AV} {sls : List Sl} {i j : Nat}, argSl e as = some sls → as[i]? = some (.r j) → ∃ c, e.get j = some (.own c)
  | [], sls, _, _, h, q => by simp at q
  | .d x :: r, sls, i, j, h, q => by
    obtain ⟨t, h1, h2⟩ := Option.map_eq_some_iff.mp (show (argSl e r).map (.d x :: ·) = some sls from h)
    cases i with
    | zero => simp at q
    | succ i => exact argSl_ref (i := i) h1 (by simpa using q)
  | .r j' :: r, sls, i, j, h, q => by
    unfold argSl at h
    split at h
    · rename_i c hc
      obtain ⟨t, h1, h2⟩ := Option.map_eq_some_iff.mp h
      cases i with
      | zero => simp at q; subst q; exact ⟨c, hc⟩
      | succ i => exact argSl_ref (i := i) h1 (by simpa using q)
    · cases h
theorem refs_mem : ∀ {as : List AV} {j : Nat}, j ∈ refsOf as ↔ ∃ i : Nat, as[i]? = some (AV.r j)
  | [], j => by simp [refsOf]
  | .d x :: r, j => by
    rw [refsOf, refs_mem (as := r)]
    constructor
    · rintro ⟨i, h⟩; exact ⟨i + 1, by simpa using h⟩
    · rintro ⟨i, h⟩
      cases i with
      | zero => simp at h
      | succ i => exact ⟨i, by simpa using h⟩
  | .r k :: r, j => by
    rw [refsOf, List.mem_cons, refs_mem (as := r)]
    constructor
    · rintro (h | ⟨i, h⟩)
      · exact ⟨0, by simp [h]⟩
      · exact ⟨i + 1, by simpa using h⟩
    · rintro ⟨i, h⟩
      cases i with
      | zero => simp at h; exact .inl h.symm
      | succ i => exact .inr ⟨i, by simpa using h⟩
theorem refs_inj : ∀ {as : List AV} {i k j : Nat}, (refsOf as).Nodup → as[i]? = some (.r j) → as[k]? = some (.r j) → i = k
  | [], _, _, _, _, h, _ => by simp at h
  | .d x :: r, i, k, j, n, h1, h2 => by
    cases i with
    | zero => simp at h1
    | succ i => cases k with
      | zero => simp at h2
      | succ k => rw [refs_inj (as := r) (i := i) (k := k) n (by simpa using h1) (by simpa using h2)]
  | .r l :: r, i, k, j, n, h1, h2 => by
    rw [refsOf, List.nodup_cons] at n
    cases i with
    | zero => cases k with
      | zero => rfl
      | succ k =>
        simp at h1 h2
        exact absurd (refs_mem.mpr ⟨k, by rw [h1]; exact h2⟩) n.1
    | succ i => cases k with
      | zero =>
        simp at h1 h2
        exact absurd (refs_mem.mpr ⟨i, by rw [h2]; exact h1⟩) n.1
      | succ k => rw [refs_inj (as := r) (i := i) (k := k) n.2 (by simpa using h1) (by simpa using h2)]
theorem setFin_t : ∀ (as : List AV) (fin : List (Option Sl)) (e : Env), (setFin e as fin).t = e.t ∧ (setFin e as fin).sl.length = e.sl.length
  | [], [], e => ⟨rfl, rfl⟩
  | [], _ :: _, e => ⟨rfl, rfl⟩
  | .r i :: as, [], e => ⟨rfl, rfl⟩
  | .d _ :: as, [], e => ⟨rfl, rfl⟩
  | .r i :: as, o :: fin, e => by
    rw [setFin]
    obtain ⟨h1, h2⟩ := setFin_t as fin (e.set i o)
    exact ⟨h1, h2.trans (by show (e.sl.set i o).length = _; rw [List.length_set])⟩
  | .d _ :: as, o :: fin, e => by
    rw [setFin]; exact setFin_t as fin e
theorem setFin_other : ∀ {as : List AV} {fin : List (Option Sl)} {e : Env} {j : Nat}, j ∉ refsOf as → (setFin e as fin).get j = e.get j
  | [], [], e, j, _ => rfl
  | [], _ :: _, e, j, _ => rfl
  | .r i :: as, [], e, j, _ => rfl
  | .d _ :: as, [], e, j, _ => rfl
  | .r i :: as, o :: fin, e, j, h => by
    rw [refsOf, List.mem_cons, not_or] at h
    rw [setFin, setFin_other h.2, Env.get_set, if_neg (fun z => h.1 z.1)]
  | .d _ :: as, o :: fin, e, j, h => by
    rw [setFin]; exact setFin_other (as := as) h
theorem setFin_ref : ∀ {as : List AV} {fin : List (Option Sl)} {e : Env} {i j : Nat}, (refsOf as).Nodup → fin.length = as.length → as[i]? = some (.r j) → j < e.sl.length → (setFin e as fin).get j = (fin[i]?).join
  | [], _, _, _, _, _, _, h, _ => by simp at h
  | .r l :: as, [], _, _, _, _, hl, _, _ => by simp at hl
  | .d _ :: as, [], _, _, _, _, hl, _, _ => by simp at hl
  | .r l :: as, o :: fin, e, i, j, n, hl, h, hj => by
    rw [refsOf, List.nodup_cons] at n
    rw [setFin]
    cases i with
    | zero =>
      simp at h
      subst h
      rw [setFin_other n.1, Env.get_set, if_pos ⟨rfl, hj⟩]
      rfl
    | succ i =>
      have := setFin_ref (as := as) (fin := fin) (e := e.set l o) (i := i) (j := j) n.2 (by simpa using hl) (by simpa using h) (by show j < (e.sl.set l o).length; rw [List.length_set]; exact hj)
      rw [this]; simp
  | .d _ :: as, o :: fin, e, i, j, n, hl, h, hj => by
    rw [setFin]
    cases i with
    | zero => simp at h
    | succ i =>
      have := setFin_ref (as := as) (fin := fin) (e := e) (i := i) (j := j) n (by simpa using hl) (by simpa using h) hj
      rw [this]; simp

/-- a def's promise by its meaning -/
def spF (G : Gx) (P : Phi) (f np : Nat) : Sp := fun vs H Q _ => vs.length = np ∧ ∃ F t args, Rel G F ⟨t, args.map some⟩ (vs.map some) H ∧ match P t f args with
  | .ok s fin => ∀ F' H' v, Rel G F' ⟨t, fin⟩ (vs.map some) H' → Step t F ⟨t, args.map some⟩ (vs.map some) H F' ⟨t, fin⟩ (vs.map some) H' → WRel G F' ⟨t, fin⟩ (vs.map some) H' H (slW s) v → Q v H'
  | _ => False
theorem map_get {α β : Type} {g : α → β} {l : List α} {i : Nat} {z : β} (h : (l.map g)[i]? = some z) : ∃ x, l[i]? = some x ∧ g x = z := by
  rw [List.getElem?_map] at h
  exact Option.map_eq_some_iff.mp h
/-- the callee's own slots, seen from the caller -/
theorem callee_own {as : List AV} {sls : List Sl} {vs : List V} {t0 : Nat} (ha : argSl e as = some sls) (hv : AVs G F σ as vs) {a : Addr} (h : OwnA ⟨t0, sls.map some⟩ (vs.map some) a) :
    ∃ (i j : Nat) (c : Cell), as[i]? = some (AV.r j) ∧ e.get j = some (.own c) ∧ σ[j]? = some (some (V.ref a)) ∧ vs[i]? = some (V.ref a) := by
  obtain ⟨i, c, h1, h2⟩ := h
  have h1' : ((sls.map some)[i]?).join = some (.own c) := h1
  rw [List.getElem?_map] at h1'
  cases q : sls[i]? with
  | none => rw [q] at h1'; cases h1'
  | some sl =>
    rw [q] at h1'
    have e1 : sl = .own c := Option.some.inj h1'
    subst e1
    obtain ⟨z, hz, e2⟩ := map_get h2
    have e3 : z = .ref a := Option.some.inj e2
    subst e3
    rcases argSl_get ha q with ⟨x, _, k⟩ | ⟨j, c', k1, k2, k3⟩
    · cases k
    · obtain ⟨v', w1, w2⟩ := hv.getR k1
      rw [hz] at w1; cases w1
      exact ⟨i, j, c', k1, k2, w2, hz⟩
/-- the callee's beginning -/
theorem Rel.callee (R : Rel G F e σ H) {as : List AV} {sls : List Sl} {vs : List V} (nd : (refsOf as).Nodup) (ha : argSl e as = some sls) (hv : AVs G F σ as vs) : Rel G F ⟨e.t, sls.map some⟩ (vs.map some) H := by
  have get : ∀ i s, Env.get ⟨e.t, sls.map some⟩ i = some s → sls[i]? = some s := fun i s h => by
    have h' : ((sls.map some)[i]?).join = some s := h
    rw [List.getElem?_map] at h'
    cases q : sls[i]? with
    | none => rw [q] at h'; cases h'
    | some sl => rw [q] at h'; exact congrArg some (Option.some.inj h')
  refine ⟨R.sub, ?_, fun i x h => ?_, fun i c h => ?_, fun i k c1 c2 b h1 h2 h3 h4 => ?_, R.ept⟩
  · show (sls.map some).length = (vs.map some).length
    rw [List.length_map, List.length_map, argSl_length ha, hv.length]
  · rcases argSl_get ha (get i _ h) with ⟨y, k1, k2⟩ | ⟨j, c, _, _, k⟩
    · cases k2
      obtain ⟨v, h1, h2⟩ := hv.getD k1
      exact ⟨v, by rw [List.getElem?_map, h1]; rfl, h2⟩
    · cases k
  · rcases argSl_get ha (get i _ h) with ⟨y, k1, k2⟩ | ⟨j, c', k1, k2, k⟩
    · cases k2
    · cases k
      obtain ⟨v, h1, h2⟩ := hv.getR k1
      obtain ⟨a, h3, h4⟩ := R.own j _ k2
      rw [h2] at h3; cases h3
      exact ⟨a, by rw [List.getElem?_map, h1]; rfl, h4⟩
  · obtain ⟨i', j1, d1, w1, w2, w3, w4⟩ := callee_own (t0 := e.t) ha hv (a := b) ⟨i, c1, h1, h3⟩
    rcases argSl_get ha (get i _ h1) with ⟨y, _, k2⟩ | ⟨j1, d1, w1, w2, _⟩
    · cases k2
    · rcases argSl_get ha (get k _ h2) with ⟨y, _, k2⟩ | ⟨j2, d2, u1, u2, _⟩
      · cases k2
      · obtain ⟨v1, x1, x2⟩ := hv.getR w1
        obtain ⟨v2, y1, y2⟩ := hv.getR u1
        rw [List.getElem?_map, x1] at h3
        rw [List.getElem?_map, y1] at h4
        cases h3; cases h4
        have ej := R.dis j1 j2 d1 d2 b w2 u2 x2 y2
        subst ej
        exact refs_inj nd w1 u1
/-- behind the callee -/
theorem Rel.called (R : Rel G F e σ H) {as : List AV} {sls : List Sl} {vs : List V} {fin : List (Option Sl)} (nd : (refsOf as).Nodup) (ha : argSl e as = some sls) (hv : AVs G F σ as vs) (hl : fin.length = as.length)
    (R' : Rel G F' ⟨e.t, fin⟩ (vs.map some) H') (S' : Step e.t F ⟨e.t, sls.map some⟩ (vs.map some) H F' ⟨e.t, fin⟩ (vs.map some) H') :
    Rel G F' (setFin e as fin) σ H' ∧ Step e.t F e σ H F' (setFin e as fin) σ H' ∧ ∀ w v, WRel G F' ⟨e.t, fin⟩ (vs.map some) H' H (slW w) v → WRel G F' (setFin e as fin) σ H' H (slW w) v := by
  have R0 := R.callee nd ha hv
  have fl : Fle F F' := R0.fle S'
  obtain ⟨st, sl⟩ := setFin_t as fin e
  have up : ∀ {a : Addr}, OwnA ⟨e.t, sls.map some⟩ (vs.map some) a → OwnA e σ a := fun h => by
    obtain ⟨i, j, c, _, h2, h3, _⟩ := callee_own ha hv h
    exact ⟨j, c, h2, h3⟩
  have was : ∀ j c, (setFin e as fin).get j = some (.own c) → ∃ c0, e.get j = some (.own c0) := fun j c h => by
    by_cases z : j ∈ refsOf as
    · obtain ⟨i, hi⟩ := refs_mem.mp z
      exact argSl_ref ha hi
    · rw [setFin_other z] at h
      exact ⟨c, h⟩
  have ow : ∀ a, OwnA (setFin e as fin) σ a → OwnA e σ a := fun a ⟨j, c, h1, h2⟩ => by
    obtain ⟨c0, h0⟩ := was j c h1
    exact ⟨j, c0, h0, h2⟩
  refine ⟨⟨R'.sub, sl.trans R.len, fun j x h => ?_, fun j c h => ?_, fun j k c1 c2 b h1 h2 h3 h4 => ?_, fun a o h => by rw [st]; exact R'.ept a o h⟩, ⟨S'.le, fun a o h => ?_, fun a o h n z => ?_, fun a h => .inl (ow a h), S'.th, by rw [st]; exact Nat.le_refl _⟩, fun w v h => ?_⟩
  · by_cases z : j ∈ refsOf as
    · obtain ⟨i, hi⟩ := refs_mem.mp z
      obtain ⟨c0, h0⟩ := argSl_ref ha hi
      rw [setFin_ref nd hl hi (Env.get_lt h0)] at h
      obtain ⟨v, h1, h2⟩ := R'.dat i x h
      obtain ⟨v', h3, h4⟩ := hv.getR hi
      rw [List.getElem?_map, h3] at h1
      cases h1
      exact ⟨_, h4, h2⟩
    · rw [setFin_other z] at h
      obtain ⟨v, h1, h2⟩ := R.dat j x h
      exact ⟨v, h1, h2.mono fl⟩
  · by_cases z : j ∈ refsOf as
    · obtain ⟨i, hi⟩ := refs_mem.mp z
      obtain ⟨c0, h0⟩ := argSl_ref ha hi
      rw [setFin_ref nd hl hi (Env.get_lt h0)] at h
      obtain ⟨a, h1, h2⟩ := R'.own i c h
      obtain ⟨v', h3, h4⟩ := hv.getR hi
      rw [List.getElem?_map, h3] at h1
      cases h1
      exact ⟨a, h4, h2⟩
    · rw [setFin_other z] at h
      obtain ⟨a, h1, h2⟩ := R.own j c h
      have na : ¬ OwnA ⟨e.t, sls.map some⟩ (vs.map some) a := fun w => by
        obtain ⟨i, j', c', k1, k2, k3, _⟩ := callee_own ha hv w
        have ej := R.dis j j' c c' a h k2 h1 k3
        subst ej
        exact z (refs_mem.mpr ⟨i, k1⟩)
      exact ⟨a, h1, (h2.step R0 S' na).1⟩
  · obtain ⟨d1, e1⟩ := was j c1 h1
    obtain ⟨d2, e2⟩ := was k c2 h2
    exact R.dis j k d1 d2 b e1 e2 h3 h4
  · rcases S'.fr a o h with q | q | q
    · exact .inl q
    · exact .inr (.inl q)
    · exact .inr (.inr (up q))
  · exact S'.kp a o h (fun w => n (up w)) z
  · cases w with
    | d x => exact h
    | own c =>
      obtain ⟨a, h1, h2, _, h4⟩ := h
      refine ⟨a, h1, h2, fun q => ?_, h4⟩
      obtain ⟨o, ho⟩ := R.own_some (ow a q)
      rw [h4] at ho; cases ho

/-- slots are forgotten -/
theorem Rel.kill {T : Nat} (R : Rel G F e σ H) (i : Nat) : Rel G F (e.set i none) σ H ∧ Step T F e σ H F (e.set i none) σ H := by
  have was : ∀ j s, (e.set i none).get j = some s → e.get j = some s := fun j s h => by
    rw [Env.get_set] at h
    split at h
    · cases h
    · exact h
  refine ⟨⟨R.sub, ?_, fun j x h => R.dat j x (was j _ h), fun j c h => R.own j c (was j _ h), fun j k c1 c2 b h1 h2 => R.dis j k c1 c2 b (was _ _ h1) (was _ _ h2), R.ept⟩, ⟨fun _ _ h _ => ⟨h, rfl⟩, fun a o h => .inl (by rw [h]; simp), fun _ _ h _ _ => h, fun a ⟨j, c, h, z⟩ => .inl ⟨j, c, was j _ h, z⟩, fun _ h => h, Nat.le_refl _⟩⟩
  show (e.sl.set i none).length = _
  rw [List.length_set]; exact R.len
theorem Rel.killAll {T : Nat} : ∀ (is : List Nat) {e : Env}, Rel G F e σ H → Rel G F (MV.killAll e is) σ H ∧ Step T F e σ H F (MV.killAll e is) σ H ∧ (MV.killAll e is).t = e.t
  | [], e, R => ⟨R, .refl, rfl⟩
  | i :: is, e, R => by
    obtain ⟨R1, S1⟩ := R.kill (T := T) i
    obtain ⟨R2, S2, t2⟩ := Rel.killAll (T := T) is R1
    exact ⟨R2, S1.trans S2, t2⟩
/-- a call's reading -/
theorem call_core {A : Anch} {K : KW W} {Wd : KW D} {as : List AV} {vs : List V} {np : Nat} {E : XK} (hW : ∀ x F e H, ¬ Wd x F e H) (R : Rel G F e σ H) (s : A.to σ F e H) (t : e.t = A.e.t) (hv : AVs G F σ as vs) (hn : as.length = np) (h : Ex G Wd A σ (callM P f as) e K) :
    spF G P f np vs H (fun v H' => ∃ F' e' w, Rel G F' e' σ H' ∧ Step e.t F e σ H F' e' σ H' ∧ A.to σ F' e' H' ∧ e'.t = A.e.t ∧ WRel G F' e' σ H' H w v ∧ K w F' e' H') E := by
  refine ⟨hv.length.trans hn, ?_⟩
  unfold Ex callM at h
  by_cases nd : (refsOf as).Nodup
  · rw [if_pos nd] at h
    cases ha : argSl e as with
    | none => rw [ha] at h; exact h.elim
    | some sls =>
      rw [ha] at h
      dsimp only at h
      refine ⟨F, e.t, sls, R.callee nd ha hv, ?_⟩
      cases hp : P e.t f sls with
      | exc x =>
        rw [hp] at h
        obtain ⟨R1, S1, t1⟩ := R.killAll (T := e.t) (refsOf as)
        exact absurd (h F H R1 (Step.to s t S1) (t1.trans t)) (hW _ _ _ _)
      | stuck => rw [hp] at h; exact h.elim
      | ok w fin =>
        rw [hp] at h
        dsimp only at h ⊢
        by_cases hl : fin.length = as.length
        · rw [if_pos hl] at h
          intro F' H' v R' S' r
          obtain ⟨R2, S2, k⟩ := R.called nd ha hv hl R' S'
          have t2 : (setFin e as fin).t = A.e.t := (setFin_t as fin e).1.trans t
          have a2 := Step.to s t S2
          exact ⟨F', _, slW w, R2, S2, a2, t2, k w v r, h F' H' R2 a2 t2⟩
        · rw [if_neg hl] at h; exact h.elim
  · rw [if_neg nd] at h; exact h.elim
end
end MV
/-! MVCall2: the rules of calls. -/
namespace MV
open PySem PySem.Spec L2

abbrev Never : XK := fun _ _ _ => False
section
variable {G : Gx} {F F' : Fz} {e e' : Env} {σ : L2.St} {H H' : Hp} {s t : Sl} {v w : V} {X : Cx} {m ma mb mc : M W} {a b c x y : Expr} {pos p p2 : Pos} {es : List Expr} {u : V} {P : Phi} {f np k : Nat} {I : Info}
  {CX : CXT} {fa : Addr} {fd : FuncData} {ps : List Str} {n : Str}

def RAV (G : Gx) (Wx : L2.St → KW D) (m : M (List AV)) : TA := fun σ H Q => ∃ F e, Rel G F e σ H ∧ Ex G (Wx σ) ⟨F, e, H⟩ σ m e (fun as F' e' H' => ∀ vs, AVs G F' σ as vs → Q vs H')
theorem sv_nil : PA X [] (RAV G W0 (ret [])) := PA.imp pa_nil fun σ H Q h => by
  obtain ⟨F, e, R, h⟩ := h
  exact h F H R .refl rfl [] rfl
theorem sv_cons {mr : M (List AV)} (hx : PE X x (RT G W0 m)) (hr : PA X es (RAV G W0 mr)) (hs : notStar x = true) : PA X (x :: es) (RAV G W0 (bnd m fun w => bnd (frz w) fun d => bnd mr fun ds => ret (.d d :: ds))) := by
  refine PA.imp (pa_cons hx hr (starEach_of (notStar_of hs))) fun σ H Q h => ?_
  obtain ⟨F, e, R, h⟩ := h
  refine RT.mono (Ex.rt R .refl rfl h) fun v H1 ⟨F1, e1, w, R1, s1, a1, t1, r1, h1⟩ => ?_
  obtain ⟨F2, e2, d, R2, a2, t2, i2, h2, l2⟩ := h1.frz R1 a1 t1 r1
  refine ⟨F2, e2, R2, (h2.bnd.later (A' := ⟨F2, e2, H1⟩) a2 t2).mono fun ds F3 e3 H3 R3 s3 t3 h3 vs i3 => ?_⟩
  have t3' : e3.t = e2.t := t3
  exact Ex.ret h3 F3 H3 R3 (Step.to (A := ⟨F, e, H⟩) a2 t2 s3) (t3'.trans t2) (v :: vs) ⟨v, vs, rfl, i2.mono (R2.fle s3), i3⟩
def refM (i : Nat) (mr : M (List AV)) : M (List AV) := fun e => match e.get i with
    | some (.own _) => (bnd mr fun xs => ret (.r i :: xs)) e
    | _ => .stuck
theorem sv_ref {i : Nat} {mr : M (List AV)} (hN : X.N[i]? = some n) (hv : Vis X.env.scope n) (hd : (n == ("__debug__" : Str)) = false) (hcd : (n == ("__classdict__" : Str)) = false) (hr : PA X es (RAV G W0 mr)) : PA X (.Name n pos :: es) (RAV G W0 (refM i mr)) := by
  refine PA.imp (pa_cons (pe_var hN hv hd hcd) hr rfl) fun σ H Q h => ?_
  obtain ⟨F, e, R, h⟩ := h
  unfold Ex refM at h
  cases q : e.get i with
  | none => rw [q] at h; exact h.elim
  | some sl =>
    rw [q] at h
    cases sl with
    | d _ => exact h.elim
    | own c =>
      obtain ⟨ad, h1, h2⟩ := R.own i c q
      have h : Ex G (W0 σ) ⟨F, e, H⟩ σ (bnd mr fun xs => ret (.r i :: xs)) e (fun as F' e' H' => ∀ vs, AVs G F' σ as vs → Q vs H') := h
      refine ⟨_, h1, F, e, R, h.bnd.mono fun ds F3 e3 H3 R3 s3 t3 h3 vs i3 => ?_⟩
      exact Ex.ret h3 F3 H3 R3 s3 t3 (.ref ad :: vs) ⟨_, vs, rfl, h1, i3⟩

/-! ### a call -/
theorem Ex.rav {A : Anch} {β : Type} {Wx : L2.St → KW D} {g : List AV → M β} {K : KW β} {mo : M (List AV)} (R : Rel G F e σ H) (s : A.to σ F e H) (t : e.t = A.e.t) (h : Ex G (Wx σ) A σ (MV.bnd mo g) e K) :
    RAV G Wx mo σ H (fun vs H1 => ∃ F1 e1 as, mo e = .ok as e1 ∧ Rel G F1 e1 σ H1 ∧ Step e.t F e σ H F1 e1 σ H1 ∧ A.to σ F1 e1 H1 ∧ e1.t = A.e.t ∧ AVs G F1 σ as vs ∧ Ex G (Wx σ) A σ (g as) e1 K) := by
  refine ⟨F, e, R, (h.bnd.later (A' := ⟨F, e, H⟩) s t).res.mono fun as F1 e1 H1 R1 s1 t1 ⟨q, h1⟩ vs i1 => ?_⟩
  have s1' : Step e.t F e σ H F1 e1 σ H1 := s1
  have t1' : e1.t = e.t := t1
  exact ⟨F1, e1, as, q, R1, s1', Step.to s t s1', t1'.trans t, i1, h1⟩
theorem RAV.mono {Wx : L2.St → KW D} {mo : M (List AV)} {Q Q' : List V → Hp → Prop} (h : RAV G Wx mo σ H Q) (k : ∀ o H', Q o H' → Q' o H') : RAV G Wx mo σ H Q' := by
  obtain ⟨F, e, R, h⟩ := h
  exact ⟨F, e, R, h.mono fun o F1 e1 H1 _ _ _ h1 vs i => k vs H1 (h1 vs i)⟩
theorem spF.mono {vs : List V} {Q Q' : VK} {E : XK} (h : spF G P f np vs H Q E) (k : ∀ v H', Q v H' → Q' v H') : spF G P f np vs H Q' E := by
  obtain ⟨h1, F, t, args, R, h⟩ := h
  refine ⟨h1, F, t, args, R, ?_⟩
  cases q : P t f args with
  | ok s fin => rw [q] at h; exact fun F' H' v R' S' r => k v H' (h F' H' v R' S' r)
  | exc _ => rw [q] at h; exact h
  | stuck => rw [q] at h; exact h
theorem w0_no : ∀ x F e H, ¬ W0 σ x F e H := fun _ _ _ _ h => h
theorem se_call {mas : M (List AV)} (Fn : FnOk X.prog X.w X.K X.mg X.base CX k fa fd ps (spF G P f np)) (hr : Room k X.A) (hg : Gl X n) (hm : X.mg n = some (.ref fa)) (hk : PySem.W.keepIn X.K (.ref fa) = true) (hb : Binds X.K fd ps []) (hx : Passes CX X Never)
    (ha : PA X (x :: es) (RAV G W0 mas)) (hl : ∀ e as e', mas e = .ok as e' → as.length = np) (hs : notStar x = true) (hpl : ∀ y ∈ es, notStar y = true) (hdb : (n == ("__debug__" : Str)) = false) : PE X (.Call (.Name n p) (x :: es) [] pos) (RT G W0 (bnd mas fun avs => callM P f avs)) := by
  have pl : (backTo pos (starEach es X.env)).any (·.1) = false := by
    clear ha
    induction es with
    | nil => rfl
    | cons y ys ih =>
      rw [starEach_of (notStar_of (hpl y (List.Mem.head _)))]
      show (false || (backTo pos (starEach ys X.env)).any (·.1)) = false
      rw [ih fun z hz => hpl z (List.Mem.tail _ hz)]; rfl
  refine PE.imp (pe_call Fn hr hg hm hk hb .nil hx ha hdb (starEach_of (notStar_of hs)) pl) fun σ H Q h => ?_
  obtain ⟨F, e, R, h⟩ := h
  refine RAV.mono (Ex.rav (A := ⟨F, e, H⟩) R .refl rfl h) fun vs H1 ⟨F1, e1, as, q, R1, s1, a1, t1, i1, h1⟩ => ?_
  rw [List.append_nil]
  refine (call_core w0_no R1 a1 t1 i1 (hl _ _ _ q) h1).mono fun v H2 ⟨F2, e2, w, R2, s2, a2, t2, r2, h2⟩ => h2 v (r2.early fun z hz => s1.th z hz)

/-! ### a property -/
def propM (I : Info) (P : Phi) (m : M W) (nm : Nat) : M W := bnd m fun x => bnd (rd x) fun s => match objOf s with
    | some (c, _, _) => bnd (frz x) fun a => bnd (optM (I.meth c nm)) fun f => callM P f [.d a]
    | none => bad
theorem se_prop {c0 nm : Nat} {pr : Addr} (hI : ∀ c f', I.meth c nm = some f' → c = c0 ∧ f' = f) (cl : Cls X.K (G.ca c0)) (hp : PropOf X.K (G.ca c0) n pr fa) (Fn : FnOk X.prog X.w X.K X.mg X.base CX k fa fd ps (spF G P f 1)) (hr : Room (k + 1) X.A) (hb : Binds X.K fd ps [])
    (hx : Passes CX X.nox Never) (ha : PE X a (RT G W0 m)) (hs : superB a = true) : PE X (.Attribute a n pos) (RT G W0 (propM I P m nm)) := by
  refine PE.imp (pe_prop ha cl hp Fn hr hb .nil hx (abase_of hs)) fun σ H Q h => ?_
  obtain ⟨F, e, R, h⟩ := h
  refine RT.mono (Ex.rt R .refl rfl h) fun v H1 ⟨F1, e1, w1, R1, s1, a1, t1, r1, h1⟩ => ?_
  obtain ⟨sx, hx, h2⟩ := h1.rd R1 r1
  split at h2
  · rename_i c ns xs hq
    obtain ⟨ad, dx, vs, ev, k1, k2, k3, k4⟩ := obj_of R1 hx hq
    obtain ⟨F2, e2, d, R2, a2, t2, i2, h3, l2⟩ := h2.frz R1 a1 t1 r1
    obtain ⟨f', hf, h4⟩ := h3.opt
    obtain ⟨rfl, rfl⟩ := hI c f' hf
    subst ev
    refine ⟨ad, dx, _, rfl, k1, ?_⟩
    exact (call_core w0_no R2 a2 t2 (as := [.d d]) (vs := [.ref ad]) ⟨_, [], rfl, i2, rfl⟩ rfl h4).mono fun v H2 ⟨F3, e3, w, R3, s3, a3, t3, r3, h5⟩ => h5 v (r3.early fun z hz => s1.th z hz)
  · exact h2.elim

/-! ### len of an own object -/
theorem run_in1 {pins : List (Addr × Obj)} {s : Shared} {Q : VK} {us : List Value} {vs : List V} {sp : Sp} {E : XK} (F : FnOk X.prog X.w X.K X.mg X.base CX k fa fd ps sp) (hr : Room (k + 1) X.A) (hb : Binds X.K fd ps []) (hx : Passes CX X E)
    (I : Inv X pins σ H s) (r : Vals vs us) (h : sp vs H Q E) : wpAny (model X.prog X.w) X.A.in1 (call (.ref fa) us) (EP X pins σ Q) X.xe s := by
  have hl : (us ++ []).length = ps.length := by rw [List.append_nil, ← r.length]; exact F.len _ _ _ _ h
  have hb' := hb s us I.kIn hl
  rw [List.append_nil] at hb'
  refine wpAny_call (codeAny_mono (F.run X.A.in1 X.stack s H ⟨us, []⟩ us vs Q E hr.in1 I.env0.in1 hb' r h) fun r s' hq => ?_)
  cases r with
  | error e => exact hx pins σ H s e s' I hq
  | ok fl =>
    cases fl with
    | ret u => exact I.after hq
    | next => exact False.elim hq
    | brk => exact False.elim hq
    | cont => exact False.elim hq
theorem call_lenO {C : Addr} {sp : Sp} (hs : PySem.W.findIn X.K (.ref C) "__len__" = some (some (.ref fa))) (hf : PySem.W.isFn X.K (.ref fa) = true) (Fn : FnOk X.prog X.w X.K X.mg X.base CX k fa fd ps sp) (hr : Room (k + 1) X.A) (hb : Binds X.K fd ps []) (hx : Passes CX X Never) :
    CallR X (.builtin "len") (fun xs H Q => ∃ ad dx fs, xs = [.ref ad] ∧ H ad = some (.ins C dx fs) ∧ sp [.ref ad] H (fun v H' => ∃ n : Int, v = .int n ∧ (0 ≤ n ∧ n < 2 ^ 63) ∧ Q (.int n) H') Never) := by
  intro pins st σ H xs us Q I r h
  obtain ⟨ad, dx, fs, rfl, ea, h⟩ := h
  rw [Vals.ref1 r]
  obtain ⟨mA, O, _⟩ := ins_get I.hok ea
  obtain ⟨od, J, _⟩ := O.look
  obtain ⟨m, hF⟩ := I.fr
  refine PySem.W.len_K hF I.ok.mod.kin J hs hf (thn (run_in1 Fn hr hb hx I (us := [.ref ad]) (vs := [.ref ad]) (.cons rfl .nil) h) fun u s' ⟨v, H', I', rv, n, ev, hn, q⟩ => ?_)
  subst ev
  obtain ⟨t, rfl⟩ := rv
  exact ⟨hn, .int n, H', I'.tok _, ⟨_, rfl⟩, q⟩
theorem se_len2 {c0 : Nat} (hI : ∀ c f', I.lenm c = some f' → c = c0 ∧ f' = f) (hs' : PySem.W.findIn X.K (.ref (G.ca c0)) "__len__" = some (some (.ref fa))) (hf : PySem.W.isFn X.K (.ref fa) = true) (Fn : FnOk X.prog X.w X.K X.mg X.base CX k fa fd ps (spF G P f 1)) (hr : Room (k + 1) X.A) (hb : Binds X.K fd ps []) (hx : Passes CX X Never)
    (hG : G.K = X.K) (hg : Gl X "len") (hm : X.mg "len" = none) (ha : PE X x (RT G W0 m)) (hs : notStar x = true) : PE X (.Call (.Name "len" p) [x] [] pos) (RT G W0 (bnd m fun x => lenM I P x)) := by
  refine PE.imp (pe_callB ((CallR.len (G := G) hG).or (call_lenO hs' hf Fn hr hb hx)) hg hm boot_len (pa_cons ha pa_nil (starEach_of (notStar_of hs))) (by decide) (by decide) (starEach_of (notStar_of hs)) rfl) fun σ H Q h => ?_
  obtain ⟨F, e, R, h⟩ := h
  refine RT.mono (Ex.rt R .refl rfl h) fun v H1 ⟨F1, e1, w1, R1, s1, a1, t1, r1, h1⟩ => ?_
  obtain ⟨sx, hx, h2⟩ := h1.rd R1 r1
  split at h2
  · rename_i c ns xs hq
    obtain ⟨ad, dx, vs, ev, k1, k2, k3, k4⟩ := obj_of R1 hx hq
    obtain ⟨F2, e2, d, R2, a2, t2, i2, h3, l2⟩ := h2.frz R1 a1 t1 r1
    obtain ⟨f', hf, h4⟩ := h3.opt
    obtain ⟨rfl, rfl⟩ := hI c f' hf
    subst ev
    refine .inr ⟨ad, dx, _, rfl, k1, ?_⟩
    refine (call_core w0_no R2 a2 t2 (as := [.d d]) (vs := [.ref ad]) ⟨_, [], rfl, i2, rfl⟩ rfl h4.bnd).mono fun v H2 ⟨F3, e3, w, R3, s3, a3, t3, r3, h5⟩ => ?_
    unfold ansN at h5
    split at h5
    · rename_i n
      split at h5
      · rename_i hn
        have ev : v = .int n := Is.int_v (H := H2) r3
        refine ⟨n, ev, ⟨hn.1, ?_⟩, Ex.ret h5 F3 H2 R3 a3 t3 _ (show Is G F3 (.int n) (.int n) from Is.int_of)⟩
        have := hn.2
        omega
      · exact h5.elim
    · exact h5.elim
  · obtain ⟨w, hw, h2⟩ := h2.optL
    exact .inl ⟨v, rfl, F1, e1, σ, sx, w, R1, hx, hw, fun F' H' u R' S' r' => h2 F' H' R' (Step.to (A := ⟨F, e, H⟩) a1 t1 S') t1 u (r'.early fun z hz => s1.th z hz)⟩

/-! ### == of own objects -/
theorem op_eqO {C : Addr} {sp : Sp} (hs : PySem.W.findIn X.K (.ref C) "__eq__" = some (some (.ref fa))) (hf : PySem.W.isFn X.K (.ref fa) = true) (Fn : FnOk X.prog X.w X.K X.mg X.base CX k fa fd ps sp) (hr : Room k X.A) (hb : Binds X.K fd ps []) (hx : Passes CX X Never) :
    OpR X (compareOp .Eq) (fun x y H Q => ∃ ad dx fs bd dy gs, x = .ref ad ∧ y = .ref bd ∧ H ad = some (.ins C dx fs) ∧ H bd = some (.ins C dy gs) ∧ sp [.ref ad, .ref bd] H (fun v H' => ∃ k : Bool, v = .bl k ∧ Q (.bl k) H') Never) := by
  intro pins st σ H x y v u Q I rx ry h
  obtain ⟨ad, dx, fs, bd, dy, gs, rfl, rfl, ea, eb, h⟩ := h
  cases rx
  cases ry
  obtain ⟨mA, O, _⟩ := ins_get I.hok ea
  obtain ⟨od, J, _⟩ := O.look
  obtain ⟨mB, O', _⟩ := ins_get I.hok eb
  obtain ⟨od', J', _⟩ := O'.look
  obtain ⟨m, hF⟩ := I.fr
  have r2 : Vals [V.ref ad, V.ref bd] [Value.ref ad, Value.ref bd] := .cons rfl (.cons rfl .nil)
  have hc := run_fn (dvs := []) (ds := []) Fn hr hb .nil hx I r2 (by rw [List.append_nil]; exact h)
  refine PySem.W.cmp_K (op := .Eq) (tb := .ref C) hr.units0 hF I.ok.mod.kin J J'.type (by simp [PySem.W.notFirst]) hs hf (thn hc fun z s' hz => ?_)
  obtain ⟨v, H', I', rv, k, ev, q⟩ := hz
  subst ev
  cases rv
  exact ⟨.bl k, H', I', rfl, q⟩
def cmpEM (I : Info) (P : Phi) (o : Cop) (ma mb : M W) : M W := bnd ma fun x => bnd mb fun y => cmpM I P o x y
theorem cmpEM_ne {o : Cop} (h : o ≠ .eq) : cmpEM I P o ma mb = cmpM0 o ma mb := by
  unfold cmpEM cmpM0 cmpM
  cases o <;> first | rfl | exact absurd rfl h
theorem cmpE_imp {c0 : Nat} (hI : ∀ c f', I.eqm c = some f' → c = c0 ∧ f' = f) {Q : VK} (h : RT G W0 (cmpEM I P .eq ma mb) σ H Q) :
    tOp (fun x y H Q => OKb G (cmpop .eq) x y H Q ∨ ∃ ad dx fs bd dy gs, x = .ref ad ∧ y = .ref bd ∧ H ad = some (.ins (G.ca c0) dx fs) ∧ H bd = some (.ins (G.ca c0) dy gs) ∧ spF G P f 2 [.ref ad, .ref bd] H (fun v H' => ∃ k : Bool, v = .bl k ∧ Q (.bl k) H') Never) (RT G W0 ma) (RT G W0 mb) σ H Q := by
  obtain ⟨F, e, R, h⟩ := h
  refine RT.mono (Ex.rt R .refl rfl h) fun v H1 ⟨F1, e1, w1, R1, s1, a1, t1, r1, h1⟩ => ?_
  refine RT.mono (Ex.rt R1 a1 t1 h1) fun u H2 ⟨F2, e2, w2, R2, s2, a2, t2, r2, h2⟩ => ?_
  have r1' := r1.step R1 s2
  obtain ⟨sx, hx, h2⟩ := h2.rd R2 r1'
  obtain ⟨sy, hy, h2⟩ := h2.rd R2 r2
  split at h2
  · rename_i c ns xs c' ns' xs' h0 hq hq'
    split at h2
    · rename_i ec
      subst ec
      obtain ⟨ad, dx, vs, ev, k1, k2, k3, k4⟩ := obj_of R2 hx hq
      obtain ⟨bd, dy, vs', eu, j1, j2, j3, j4⟩ := obj_of R2 hy hq'
      obtain ⟨F3, e3, d, R3, a3, t3, i3, h3, l3, kp⟩ := h2.frz2 R2 a2 t2 r1'
      obtain ⟨F4, e4, d', R4, a4, t4, i4, h4, l4⟩ := h3.frz R3 a3 t3 (kp H w2 u (r2.early fun z hz => s1.th z hz) fun c1 c2 z1 z2 z3 => by
        subst z1 z2
        obtain ⟨a1', f1, f2, _, _⟩ := r1
        obtain ⟨a2', g1, _, _, g4⟩ := r2
        obtain ⟨o, ho⟩ := f2.some
        rw [f1, g1] at z3
        cases z3
        rw [g4] at ho; cases ho)
      obtain ⟨f', hf, h5⟩ := h4.opt
      obtain ⟨rfl, rfl⟩ := hI c f' hf
      subst ev eu
      refine .inr ⟨ad, dx, _, bd, dy, _, rfl, rfl, k1, j1, ?_⟩
      refine (call_core w0_no R4 a4 t4 (as := [.d d, .d d']) (vs := [.ref ad, .ref bd]) ⟨_, _, rfl, i3.mono l4, _, [], rfl, i4, rfl⟩ rfl h5.bnd).mono fun v H2 ⟨F3, e3, w, R3, s3, a3, t3, r3, h5⟩ => ?_
      unfold ansB at h5
      split at h5
      · rename_i n
        have ev : v = .bl n := Is.bl_v (H := H2) r3
        exact ⟨n, ev, Ex.ret h5 F3 H2 R3 a3 t3 _ (show Is G F3 (.bl n) (.bl n) from Is.bl_of)⟩
      · exact h5.elim
    · exact h2.elim
  · obtain ⟨k, hk, h2⟩ := h2.opt
    exact .inl ⟨F2, e2, σ, sx, sy, k, R2, hx, hy, hk, Ex.ret h2 F2 H2 R2 a2 t2 (.bl k) (show Is G F2 (.bl k) (.bl k) from Is.bl_of)⟩
end
end MV
/-! MVMake: new objects. -/
namespace MV
open PySem PySem.Spec L2

section
variable {G : Gx} {F F' : Fz} {e e' : Env} {σ : L2.St} {H H' : Hp} {s t : Sl} {v w : V} {X : Cx} {m ma mb mc : M W} {a b c x y : Expr} {pos p p2 : Pos} {es : List Expr} {u : V} {P : Phi} {f np k : Nat} {I : Info}
  {CX : CXT} {fa : Addr} {fd : FuncData} {ps : List Str} {n : Str}

def Env.push (e : Env) (o : Option Sl) : Env := ⟨e.t, e.sl ++ [o]⟩
theorem get_push (e : Env) (o : Option Sl) (i : Nat) : (e.push o).get i = if i = e.sl.length then o else e.get i := by
  unfold Env.get Env.push
  dsimp only
  by_cases h : i < e.sl.length
  · rw [List.getElem?_append_left h, if_neg (by omega)]
  · by_cases z : i = e.sl.length
    · subst z
      rw [List.getElem?_append_right (Nat.le_refl _), if_pos rfl]
      simp
    · rw [if_neg z, List.getElem?_eq_none (by simp; omega), List.getElem?_eq_none (by omega)]
theorem snoc_get {z : Option V} {i : Nat} : (σ ++ [z])[i]? = if i = σ.length then some z else σ[i]? := by
  by_cases h : i < σ.length
  · rw [List.getElem?_append_left h, if_neg (by omega)]
  · by_cases z : i = σ.length
    · subst z
      rw [List.getElem?_append_right (Nat.le_refl _), if_pos rfl]
      simp
    · rw [if_neg z, List.getElem?_eq_none (by simp; omega), List.getElem?_eq_none (by omega)]
theorem own_push {a x : Addr} {o : Option Sl} (hl : e.sl.length = σ.length) (h : OwnA (e.push o) (σ ++ [some (.ref x)]) a) : OwnA e σ a ∨ a = x := by
  obtain ⟨i, c, h1, h2⟩ := h
  rw [get_push] at h1
  rw [snoc_get] at h2
  by_cases z : i = σ.length
  · rw [if_pos z] at h2
    cases h2
    exact .inr rfl
  · rw [if_neg z] at h2
    rw [if_neg (by omega)] at h1
    exact .inl ⟨i, c, h1, h2⟩
theorem own_of_push {a : Addr} {o : Option Sl} {z : Option V} (hl : e.sl.length = σ.length) (h : OwnA e σ a) : OwnA (e.push o) (σ ++ [z]) a := by
  obtain ⟨i, c, h1, h2⟩ := h
  have hi := Env.get_lt h1
  exact ⟨i, c, by rw [get_push, if_neg (by omega)]; exact h1, by rw [snoc_get, if_neg (by omega)]; exact h2⟩
theorem Rel.push (R : Rel G F e σ H) {x : Addr} {c : Cell} (hc : CellAt G F H x c) (hn : ¬ OwnA e σ x) : Rel G F (e.push (some (.own c))) (σ ++ [some (.ref x)]) H := by
  have hl := R.len
  refine ⟨R.sub, by show (e.sl ++ _).length = _; rw [List.length_append, List.length_append, hl]; rfl, fun i y h => ?_, fun i c' h => ?_, fun i j c1 c2 b h1 h2 h3 h4 => ?_, R.ept⟩
  · rw [get_push] at h
    split at h
    · cases h
    · rw [snoc_get, if_neg (by omega)]
      exact R.dat i y h
  · rw [get_push] at h
    split at h
    · rename_i z
      cases h
      exact ⟨x, by rw [snoc_get, if_pos (by omega)], hc⟩
    · rw [snoc_get, if_neg (by omega)]
      exact R.own i c' h
  · rw [get_push] at h1 h2
    rw [snoc_get] at h3 h4
    by_cases z1 : i = σ.length
    · rw [if_pos z1] at h3
      cases h3
      by_cases z2 : j = σ.length
      · omega
      · rw [if_neg z2] at h4
        rw [if_neg (by omega)] at h2
        exact absurd ⟨j, c2, h2, h4⟩ hn
    · rw [if_neg z1] at h3
      rw [if_neg (by omega)] at h1
      by_cases z2 : j = σ.length
      · rw [if_pos z2] at h4
        cases h4
        exact absurd ⟨i, c1, h1, h3⟩ hn
      · rw [if_neg z2] at h4
        rw [if_neg (by omega)] at h2
        exact R.dis i j c1 c2 b h1 h2 h3 h4
theorem Rel.popd {z : Option V} {o : Option Sl} (hl : e.sl.length = σ.length) (R : Rel G F (e.push o) (σ ++ [z]) H) : Rel G F e σ H := by
  have lt : ∀ {i s}, e.get i = some s → i < e.sl.length := fun h => Env.get_lt h
  refine ⟨R.sub, hl, fun i y h => ?_, fun i c' h => ?_, fun i j c1 c2 b h1 h2 h3 h4 => ?_, R.ept⟩
  · have hi := lt h
    have := R.dat i y (by rw [get_push, if_neg (by omega)]; exact h)
    rw [snoc_get, if_neg (by omega)] at this
    exact this
  · have hi := lt h
    have := R.own i c' (by rw [get_push, if_neg (by omega)]; exact h)
    rw [snoc_get, if_neg (by omega)] at this
    exact this
  · have hi := lt h1
    have hj := lt h2
    exact R.dis i j c1 c2 b (by rw [get_push, if_neg (by omega)]; exact h1) (by rw [get_push, if_neg (by omega)]; exact h2) (by rw [snoc_get, if_neg (by omega)]; exact h3) (by rw [snoc_get, if_neg (by omega)]; exact h4)
theorem AVs.push {z : Option V} : ∀ {as : List AV} {vs : List V}, AVs G F σ as vs → AVs G F (σ ++ [z]) as vs
  | [], _, h => h
  | .d x :: r, vs, h => by
    obtain ⟨v, t, e, h1, h2⟩ := h
    exact ⟨v, t, e, h1, h2.push⟩
  | .r i :: r, vs, h => by
    obtain ⟨v, t, e, h1, h2⟩ := h
    have hi : i < σ.length := (List.getElem?_eq_some_iff.mp h1).1
    exact ⟨v, t, e, by rw [List.getElem?_append_left hi]; exact h1, h2.push⟩
theorem argSl_push {o : Option Sl} : ∀ {as : List AV} {sls : List Sl}, argSl e as = some sls → argSl (e.push o) as = some sls
  | [], sls, h => h
  | .d x :: r, sls, h => by
    obtain ⟨t, h1, h2⟩ := Option.map_eq_some_iff.mp (show (argSl e r).map (.d x :: ·) = some sls from h)
    show (argSl (e.push o) r).map (.d x :: ·) = some sls
    rw [argSl_push h1]; exact congrArg some h2
  | .r i :: r, sls, h => by
    unfold argSl at h ⊢
    split at h
    · rename_i c hc
      have hi := Env.get_lt hc
      obtain ⟨t, h1, h2⟩ := Option.map_eq_some_iff.mp h
      rw [get_push, if_neg (by omega), hc]
      show (argSl (e.push o) r).map (.own c :: ·) = some sls
      rw [argSl_push h1]; exact congrArg some h2
    · cases h
theorem setFin_push (o : Option Sl) : ∀ (as : List AV) (fin : List (Option Sl)) (e : Env), (∀ j ∈ refsOf as, j < e.sl.length) → setFin (e.push o) as fin = (setFin e as fin).push o
  | [], [], e, _ => rfl
  | [], _ :: _, e, _ => rfl
  | .r i :: as, [], e, _ => rfl
  | .d _ :: as, [], e, _ => rfl
  | .r i :: as, q :: fin, e, h => by
    rw [setFin, setFin]
    have hi : i < e.sl.length := h i (List.Mem.head _)
    have e1 : (e.push o).set i q = (e.set i q).push o := by
      unfold Env.push Env.set
      dsimp only
      rw [List.set_append_left _ _ hi]
    rw [e1]
    exact setFin_push o as fin (e.set i q) fun j hj => by
      show j < (e.sl.set i q).length
      rw [List.length_set]; exact h j (List.Mem.tail _ hj)
  | .d _ :: as, q :: fin, e, h => by
    rw [setFin, setFin]; exact setFin_push o as fin e h

theorem make_core {A : Anch} {K : KW W} {Wd : KW D} {as : List AV} {vs : List V} {np c : Nat} {E : XK} {x dx : Addr} (hW : ∀ x F e H, ¬ Wd x F e H) (R : Rel G F e σ H) (s : A.to σ F e H) (t : e.t = A.e.t) (hv : AVs G F σ as vs) (hn : as.length = np) (hck : G.ck c)
    (hx : H x = none) (hd : H dx = none) (ne : dx ≠ x) (h : Ex G Wd A σ (makeM P c f as) e K) :
    spF G P f (np + 1) (.ref x :: vs) (upd (upd H dx (.own x)) x (.ins (G.ca c) dx [])) (fun v H' => v = .non ∧ ∃ F' e' w, Rel G F' e' σ H' ∧ Step e.t F e σ H F' e' σ H' ∧ A.to σ F' e' H' ∧ e'.t = A.e.t ∧ WRel G F' e' σ H' H w (.ref x) ∧ K w F' e' H') E := by
  refine ⟨by simp [hv.length, hn], ?_⟩
  unfold Ex makeM at h
  by_cases nd : (refsOf as).Nodup
  · rw [if_pos nd] at h
    cases ha : argSl e as with
    | none => rw [ha] at h; exact h.elim
    | some sls =>
      rw [ha] at h
      dsimp only at h
      obtain ⟨R1, S1⟩ := R.alloc (o := .own x) hd
      have hx1 : upd H dx (.own x) x = none := by rw [upd_ne (Ne.symm ne)]; exact hx
      obtain ⟨R2, S2⟩ := R1.alloc (o := .ins (G.ca c) dx []) hx1
      obtain ⟨fx, nx⟩ := R1.fresh hx1
      have hc : CellAt G F (upd (upd H dx (.own x)) x (.ins (G.ca c) dx [])) x (.obj c [] []) := ⟨fx, dx, [], upd_same, ⟨rfl, hck⟩, IsL.nil⟩
      have R3 := R2.push hc nx
      have av3 : AVs G F (σ ++ [some (.ref x)]) (.r σ.length :: as) (.ref x :: vs) := ⟨_, vs, rfl, by rw [snoc_get, if_pos rfl], hv.push⟩
      have refl : ∀ j ∈ refsOf as, j < e.sl.length := fun j hj => by
        obtain ⟨i, hi⟩ := refs_mem.mp hj
        obtain ⟨c0, h0⟩ := argSl_ref ha hi
        exact Env.get_lt h0
      have nd3 : (refsOf (.r σ.length :: as)).Nodup := by
        rw [refsOf, List.nodup_cons]
        exact ⟨fun z => absurd (refl _ z) (by rw [R.len]; omega), nd⟩
      have ha3 : argSl (e.push (some (.own (.obj c [] [])))) (.r σ.length :: as) = some (.own (.obj c [] []) :: sls) := by
        unfold argSl
        rw [get_push, if_pos R.len.symm, argSl_push ha]
        rfl
      refine ⟨F, e.t, .own (.obj c [] []) :: sls, R3.callee nd3 ha3 av3, ?_⟩
      cases hp : P e.t f (.own (.obj c [] []) :: sls) with
      | exc z =>
        rw [hp] at h
        obtain ⟨R1, S1, t1⟩ := R.killAll (T := e.t) (refsOf as)
        exact absurd (h F H R1 (Step.to s t S1) (t1.trans t)) (hW _ _ _ _)
      | stuck => rw [hp] at h; exact h.elim
      | ok w fin0 =>
        rw [hp] at h
        dsimp only at h ⊢
        cases hm : madeOf w fin0 with
        | none => rw [hm] at h; exact h.elim
        | some q =>
          obtain ⟨c', ns, xs, fin⟩ := q
          rw [hm] at h
          obtain ⟨rfl, rfl⟩ := madeOf_eq hm
          dsimp only at h
          by_cases hl : fin.length = as.length
          · rw [if_pos hl] at h
            intro F' H' v R' S' r
            obtain ⟨R4, S4, k⟩ := R3.called nd3 ha3 av3 (by simp [hl]) R' S'
            have e4 : setFin (e.push (some (.own (.obj c [] [])))) (.r σ.length :: as) (some (.own (.obj c' ns xs)) :: fin) = (setFin e as fin).push (some (.own (.obj c' ns xs))) := by
              rw [setFin]
              have e5 : (e.push (some (.own (.obj c [] [])))).set σ.length (some (.own (.obj c' ns xs))) = e.push (some (.own (.obj c' ns xs))) := by
                unfold Env.push Env.set
                dsimp only
                rw [← R.len, List.set_append_right _ _ (Nat.le_refl _)]
                simp
              rw [e5, setFin_push _ _ _ _ refl]
            rw [e4] at R4 S4
            obtain ⟨st, sl⟩ := setFin_t as fin e
            have hl2 : (setFin e as fin).sl.length = σ.length := sl.trans R.len
            have R5 := R4.popd hl2
            have S5 : Step e.t F e σ H F' (setFin e as fin) σ H' := by
              refine ⟨S4.le, fun a o z => ?_, fun a o z n q => ?_, fun a z => ?_, fun a z => ?_, S4.tm⟩
              · rcases S4.fr a o z with q | q | q
                · exact .inl q
                · refine .inr (.inl ?_)
                  exact S1.th a (S2.th a q)
                · rcases own_push R.len q with q | q
                  · exact .inr (.inr q)
                  · exact .inr (.inl (q ▸ hx))
              · refine S4.kp a o (S2.kp a o (S1.kp a o z n q) n q) (fun q' => ?_) q
                rcases own_push R.len q' with q' | q'
                · exact n q'
                · rw [q', hx] at z; cases z
              · rcases S4.ow a (own_of_push hl2 z) with q | q
                · rcases own_push R.len q with q | q
                  · exact .inl q
                  · exact .inr (q ▸ hx)
                · exact .inr (S1.th a (S2.th a q))
              · exact S1.th a (S2.th a (S4.th a z))
            have t2 : (setFin e as fin).t = A.e.t := st.trans t
            have a2 := Step.to s t S5
            have wr : WRel G F' (setFin e as fin) σ H' H (.new (.obj c' ns xs)) (.ref x) := by
              have g : ((setFin e as fin).push (some (.own (.obj c' ns xs)))).get σ.length = some (.own (.obj c' ns xs)) := by rw [get_push, if_pos hl2.symm]
              obtain ⟨a0, z1, z2⟩ := R4.own _ _ g
              rw [snoc_get, if_pos rfl] at z1
              cases z1
              refine ⟨x, rfl, z2, fun ⟨j, c9, q1, q2⟩ => ?_, hx⟩
              have hj := Env.get_lt q1
              have := R4.dis j σ.length c9 _ x (by rw [get_push, if_neg (by omega)]; exact q1) g (by rw [snoc_get, if_neg (by omega)]; exact q2) (by rw [snoc_get, if_pos rfl])
              omega
            refine ⟨Is.non_v (H := H') r, F', _, _, R5, S5, a2, t2, wr, h F' H' R5 a2 t2⟩
          · rw [if_neg hl] at h; exact h.elim
  · rw [if_neg nd] at h; exact h.elim
theorem stars_ok {es : List Expr} {env : PySem.Env} (hpl : ∀ y ∈ es, notStar y = true) : (backTo pos (starEach es env)).any (·.1) = false := by
  induction es with
  | nil => rfl
  | cons y ys ih =>
    rw [starEach_of (notStar_of (hpl y (List.Mem.head _)))]
    show (false || (backTo pos (starEach ys env)).any (·.1)) = false
    rw [ih fun z hz => hpl z (List.Mem.tail _ hz)]; rfl
theorem se_mk {c0 : Nat} {mas : M (List AV)} (hI : I.init c0 = some f) (hck : G.ck c0) (Mc : Mk X.K (G.ca c0) fa) (Fn : FnOk X.prog X.w X.K X.mg X.base CX k fa fd ps (spF G P f (np + 1))) (hr : Room (k + 1) X.A) (hg : Gl X n) (hm : X.mg n = some (.ref (G.ca c0))) (hb : Binds X.K fd ps []) (hx : Passes CX X Never)
    (ha : PA X (x :: es) (RAV G W0 mas)) (hl : ∀ e as e', mas e = .ok as e' → as.length = np) (hs : notStar x = true) (hpl : ∀ y ∈ es, notStar y = true) (hdb : (n == ("__debug__" : Str)) = false) :
    PE X (.Call (.Name n p) (x :: es) [] pos) (RT G W0 (bnd mas fun avs => bnd (optM (I.init c0)) fun f => makeM P c0 f avs)) := by
  have e0 : (bnd mas fun avs => bnd (optM (I.init c0)) fun f => makeM P c0 f avs) = bnd mas fun avs => makeM P c0 f avs := by simp only [hI]; rfl
  rw [e0]
  refine PE.imp (pe_make Mc Fn hr hg hm hb .nil hx ha hdb (starEach_of (notStar_of hs)) (stars_ok hpl)) fun σ H Q h => ?_
  obtain ⟨F, e, R, h⟩ := h
  refine RAV.mono (Ex.rav (A := ⟨F, e, H⟩) R .refl rfl h) fun vs H1 ⟨F1, e1, as, q, R1, s1, a1, t1, i1, h1⟩ ad dx hx hd ne => ?_
  rw [List.append_nil]
  exact (make_core w0_no R1 a1 t1 i1 (hl _ _ _ q) hck hx hd ne h1).mono fun v H2 ⟨ev, F2, e2, w, R2, s2, a2, t2, r2, h2⟩ => ⟨ev, h2 _ (r2.early fun z hz => s1.th z hz)⟩
end
end MV
/-! MVNew: a new object handed in as the last argument. -/
namespace MV
open PySem PySem.Spec L2

section
variable {G : Gx} {F F' : Fz} {e e' : Env} {σ : L2.St} {H H' : Hp} {s t : Sl} {v w : V} {X : Cx} {m ma mb mc : M W} {a b c x y : Expr} {pos p p2 : Pos} {es : List Expr} {u : V} {P : Phi} {f np k : Nat} {I : Info}
  {CX : CXT} {fa : Addr} {fd : FuncData} {ps : List Str} {n : Str}

theorem AVs.snoc {j : Nat} {z : V} (hz : σ[j]? = some (some z)) : ∀ {as : List AV} {vs : List V}, AVs G F σ as vs → AVs G F σ (as ++ [.r j]) (vs ++ [z])
  | [], _, h => by rw [show _ = [] from h]; exact ⟨z, [], rfl, hz, rfl⟩
  | .d x :: r, vs, h => by
    obtain ⟨v, t, e, h1, h2⟩ := h
    subst e
    exact ⟨v, t ++ [z], rfl, h1, h2.snoc hz⟩
  | .r i :: r, vs, h => by
    obtain ⟨v, t, e, h1, h2⟩ := h
    subst e
    exact ⟨v, t ++ [z], rfl, h1, h2.snoc hz⟩
theorem refs_snoc {j : Nat} : ∀ {as : List AV}, refsOf (as ++ [.r j]) = refsOf as ++ [j]
  | [] => rfl
  | .d x :: r => by show refsOf (r ++ [.r j]) = refsOf r ++ [j]; exact refs_snoc
  | .r i :: r => by show i :: refsOf (r ++ [.r j]) = (i :: refsOf r) ++ [j]; rw [refs_snoc]; rfl
theorem argSl_snoc {j : Nat} {c : Cell} (hj : e.get j = some (.own c)) : ∀ {as : List AV} {sls : List Sl}, argSl e as = some sls → argSl e (as ++ [.r j]) = some (sls ++ [.own c])
  | [], sls, h => by
    cases h
    show argSl e [.r j] = _
    unfold argSl
    rw [hj]; rfl
  | .d x :: r, sls, h => by
    obtain ⟨t, h1, h2⟩ := Option.map_eq_some_iff.mp (show (argSl e r).map (.d x :: ·) = some sls from h)
    subst h2
    show (argSl e (r ++ [.r j])).map (.d x :: ·) = _
    rw [argSl_snoc hj h1]; rfl
  | .r i :: r, sls, h => by
    unfold argSl at h
    split at h
    · rename_i c' hc
      obtain ⟨t, h1, h2⟩ := Option.map_eq_some_iff.mp h
      subst h2
      show argSl e (.r i :: (r ++ [.r j])) = _
      unfold argSl
      rw [hc]
      show (argSl e (r ++ [.r j])).map (.own c' :: ·) = _
      rw [argSl_snoc hj h1]; rfl
    · cases h
theorem setFin_snoc (o : Option Sl) : ∀ (as : List AV) (fin : List (Option Sl)) (e : Env), fin.length = as.length + 1 → (∀ j ∈ refsOf as, j < e.sl.length) → ∃ z, setFin (e.push o) (as ++ [.r e.sl.length]) fin = (setFin e as fin).push z
  | [], [], e, h, _ => by simp at h
  | [], x :: xs, e, h, _ => by
    have hx : xs = [] := by simpa using h
    subst hx
    refine ⟨x, ?_⟩
    show setFin ((e.push o).set e.sl.length x) [] [] = _
    show (e.push o).set e.sl.length x = e.push x
    unfold Env.push Env.set
    dsimp only
    rw [List.set_append_right _ _ (Nat.le_refl _)]
    simp
  | .r i :: as, [], e, h, _ => by simp at h
  | .d _ :: as, [], e, h, _ => by simp at h
  | .r i :: as, q :: fin, e, h, hr => by
    have hi : i < e.sl.length := hr i (List.Mem.head _)
    have e1 : (e.push o).set i q = (e.set i q).push o := by
      unfold Env.push Env.set
      dsimp only
      rw [List.set_append_left _ _ hi]
    have hl : (e.set i q).sl.length = e.sl.length := by show (e.sl.set i q).length = _; rw [List.length_set]
    obtain ⟨z, hz⟩ := setFin_snoc o as fin (e.set i q) (by simpa using h) (fun j hj => by rw [hl]; exact hr j (List.Mem.tail _ hj))
    refine ⟨z, ?_⟩
    show setFin ((e.push o).set i q) (as ++ [.r e.sl.length]) fin = _
    rw [e1, ← hl, hz]; rfl
  | .d _ :: as, q :: fin, e, h, hr => by
    obtain ⟨z, hz⟩ := setFin_snoc o as fin e (by simpa using h) hr
    exact ⟨z, hz⟩
theorem callL_core {A : Anch} {K : KW W} {Wd : KW D} {as : List AV} {vs : List V} {np : Nat} {c : Cell} {z : V} {E : XK} (hW : ∀ x F e H, ¬ Wd x F e H) (R : Rel G F e σ H) (s : A.to σ F e H) (t : e.t = A.e.t) (hv : AVs G F σ as vs) (hz : WRel G F e σ H A.H (.new c) z) (hn : as.length + 1 = np)
    (h : Ex G Wd A σ (callLM P f as c) e K) :
    spF G P f np (vs ++ [z]) H (fun v H' => ∃ F' e' w, Rel G F' e' σ H' ∧ A.to σ F' e' H' ∧ e'.t = A.e.t ∧ WRel G F' e' σ H' H w v ∧ K w F' e' H') E := by
  refine ⟨by simp [hv.length, hn], ?_⟩
  unfold Ex callLM at h
  by_cases nd : (refsOf as).Nodup
  · rw [if_pos nd] at h
    cases ha : argSl e as with
    | none => rw [ha] at h; exact h.elim
    | some sls =>
      rw [ha] at h
      dsimp only at h
      obtain ⟨ad, ez, hc, nO, hA⟩ := hz
      subst ez
      have R3 := R.push hc nO
      have av3 : AVs G F (σ ++ [some (.ref ad)]) (as ++ [.r σ.length]) (vs ++ [.ref ad]) := hv.push.snoc (by rw [snoc_get, if_pos rfl])
      have refl : ∀ j ∈ refsOf as, j < e.sl.length := fun j hj => by
        obtain ⟨i, hi⟩ := refs_mem.mp hj
        obtain ⟨c0, h0⟩ := argSl_ref ha hi
        exact Env.get_lt h0
      have nd3 : (refsOf (as ++ [.r σ.length])).Nodup := by
        rw [refs_snoc, List.nodup_append]
        refine ⟨nd, by simp, fun j hj l hl => ?_⟩
        have := refl j hj
        have e1 : l = σ.length := by simpa using hl
        rw [e1, ← R.len]; omega
      have ha3 : argSl (e.push (some (.own c))) (as ++ [.r σ.length]) = some (sls ++ [.own c]) := argSl_snoc (by rw [get_push, if_pos R.len.symm]) (argSl_push ha)
      refine ⟨F, e.t, sls ++ [.own c], R3.callee nd3 ha3 av3, ?_⟩
      cases hp : P e.t f (sls ++ [.own c]) with
      | exc z =>
        rw [hp] at h
        obtain ⟨R1, S1, t1⟩ := R.killAll (T := e.t) (refsOf as)
        exact absurd (h F H R1 (Step.to s t S1) (t1.trans t)) (hW _ _ _ _)
      | stuck => rw [hp] at h; exact h.elim
      | ok w fin =>
        rw [hp] at h
        dsimp only at h ⊢
        by_cases hl : fin.length = as.length + 1
        · rw [if_pos hl] at h
          intro F' H' v R' S' r
          obtain ⟨R4, S4, kk⟩ := R3.called nd3 ha3 av3 (by simp [hl]) R' S'
          have wr := kk w v r
          obtain ⟨o, ho⟩ := setFin_snoc (some (.own c)) as fin e hl refl
          rw [R.len] at ho
          rw [ho] at R4 S4 wr
          obtain ⟨st, sl⟩ := setFin_t as fin e
          have hl2 : (setFin e as fin).sl.length = σ.length := sl.trans R.len
          have R5 := R4.popd hl2
          have sP : Step A.e.t A.F A.e σ A.H F (e.push (some (.own c))) (σ ++ [some (.ref ad)]) H := ⟨s.le, s.fr, s.kp, fun b hb => (own_push R.len hb).elim (s.ow b) fun z => .inr (z ▸ hA), s.th, s.tm⟩
          have S4' : Step A.e.t F (e.push (some (.own c))) (σ ++ [some (.ref ad)]) H F' ((setFin e as fin).push o) (σ ++ [some (.ref ad)]) H' := by rw [← t]; exact S4
          have S5 := sP.trans S4'
          have S6 : A.to σ F' (setFin e as fin) H' := ⟨S5.le, S5.fr, S5.kp, fun b hb => S5.ow b (own_of_push hl2 hb), S5.th, by show A.e.t ≤ (setFin e as fin).t; rw [st, t]; exact Nat.le_refl _⟩
          have t2 : (setFin e as fin).t = A.e.t := st.trans t
          refine ⟨F', _, slW w, R5, S6, t2, ?_, h F' H' R5 S6 t2⟩
          cases w with
          | d x => exact wr
          | own cc =>
            obtain ⟨b, w1, w2, w3, w4⟩ := wr
            exact ⟨b, w1, w2, fun q => w3 (own_of_push hl2 q), w4⟩
        · rw [if_neg hl] at h; exact h.elim
  · rw [if_neg nd] at h; exact h.elim

def RAVL (G : Gx) (Wx : L2.St → KW D) (m : M (List AV × Cell)) : TA := fun σ H Q => ∃ F e, Rel G F e σ H ∧ Ex G (Wx σ) ⟨F, e, H⟩ σ m e (fun q F' e' H' => ∀ vs v, AVs G F' σ q.1 vs → WRel G F' e' σ H' H (.new q.2) v → Q (vs ++ [v]) H')
theorem sl_new (hx : PE X x (RT G W0 m)) (hs : notStar x = true) : PA X [x] (RAVL G W0 (bnd m fun w => match w with
    | .new c => ret ([], c)
    | _ => bad)) := by
  refine PA.imp (pa_cons hx pa_nil (starEach_of (notStar_of hs))) fun σ H Q h => ?_
  obtain ⟨F, e, R, h⟩ := h
  refine RT.mono (Ex.rt R .refl rfl h) fun v H1 ⟨F1, e1, w, R1, s1, a1, t1, r1, h1⟩ => ?_
  cases w with
  | d _ => exact h1.elim
  | at_ _ => exact h1.elim
  | new c => exact Ex.ret h1 F1 H1 R1 a1 t1 [] v rfl r1
theorem sl_cons {mr : M (List AV × Cell)} (hx : PE X x (RT G W0 m)) (hr : PA X es (RAVL G W0 mr)) (hs : notStar x = true) : PA X (x :: es) (RAVL G W0 (bnd m fun w => bnd (frz w) fun d => bnd mr fun q => ret (.d d :: q.1, q.2))) := by
  refine PA.imp (pa_cons hx hr (starEach_of (notStar_of hs))) fun σ H Q h => ?_
  obtain ⟨F, e, R, h⟩ := h
  refine RT.mono (Ex.rt R .refl rfl h) fun v H1 ⟨F1, e1, w, R1, s1, a1, t1, r1, h1⟩ => ?_
  obtain ⟨F2, e2, d, R2, a2, t2, i2, h2, l2⟩ := h1.frz R1 a1 t1 r1
  refine ⟨F2, e2, R2, (h2.bnd.later (A' := ⟨F2, e2, H1⟩) a2 t2).mono fun q F3 e3 H3 R3 s3 t3 h3 vs z i3 w3 => ?_⟩
  have t3' : e3.t = e2.t := t3
  exact Ex.ret h3 F3 H3 R3 (Step.to (A := ⟨F, e, H⟩) a2 t2 s3) (t3'.trans t2) (v :: vs) z ⟨v, vs, rfl, i2.mono (R2.fle s3), i3⟩ (w3.early fun b hb => s1.th b hb)
def refLM (i : Nat) (mr : M (List AV × Cell)) : M (List AV × Cell) := fun e => match e.get i with
    | some (.own _) => (bnd mr fun q => ret (.r i :: q.1, q.2)) e
    | _ => .stuck
theorem sl_ref {i : Nat} {mr : M (List AV × Cell)} (hN : X.N[i]? = some n) (hv : Vis X.env.scope n) (hd : (n == ("__debug__" : Str)) = false) (hcd : (n == ("__classdict__" : Str)) = false) (hr : PA X es (RAVL G W0 mr)) : PA X (.Name n pos :: es) (RAVL G W0 (refLM i mr)) := by
  refine PA.imp (pa_cons (pe_var hN hv hd hcd) hr rfl) fun σ H Q h => ?_
  obtain ⟨F, e, R, h⟩ := h
  unfold Ex refLM at h
  cases q : e.get i with
  | none => rw [q] at h; exact h.elim
  | some sl =>
    rw [q] at h
    cases sl with
    | d _ => exact h.elim
    | own c =>
      obtain ⟨ad, h1, h2⟩ := R.own i c q
      have h : Ex G (W0 σ) ⟨F, e, H⟩ σ (bnd mr fun q => ret (.r i :: q.1, q.2)) e (fun q F' e' H' => ∀ vs v, AVs G F' σ q.1 vs → WRel G F' e' σ H' H (.new q.2) v → Q (vs ++ [v]) H') := h
      refine ⟨_, h1, F, e, R, h.bnd.mono fun q F3 e3 H3 R3 s3 t3 h3 vs z i3 w3 => ?_⟩
      exact Ex.ret h3 F3 H3 R3 s3 t3 (.ref ad :: vs) z ⟨_, vs, rfl, h1, i3⟩ w3
theorem se_callL {mas : M (List AV × Cell)} (Fn : FnOk X.prog X.w X.K X.mg X.base CX k fa fd ps (spF G P f np)) (hr : Room k X.A) (hg : Gl X n) (hm : X.mg n = some (.ref fa)) (hk : PySem.W.keepIn X.K (.ref fa) = true) (hb : Binds X.K fd ps []) (hx : Passes CX X Never)
    (ha : PA X (x :: es) (RAVL G W0 mas)) (hl : ∀ e q e', mas e = .ok q e' → q.1.length + 1 = np) (hs : notStar x = true) (hpl : ∀ y ∈ es, notStar y = true) (hdb : (n == ("__debug__" : Str)) = false) : PE X (.Call (.Name n p) (x :: es) [] pos) (RT G W0 (bnd mas fun q => callLM P f q.1 q.2)) := by
  refine PE.imp (pe_call Fn hr hg hm hk hb .nil hx ha hdb (starEach_of (notStar_of hs)) (stars_ok hpl)) fun σ H Q h => ?_
  obtain ⟨F, e, R, h⟩ := h
  refine ⟨F, e, R, h.bnd.res.mono fun q F1 e1 H1 R1 s1 t1 ⟨hq, h1⟩ vs z i1 w1 => ?_⟩
  show spF G P f np ((vs ++ [z]) ++ []) H1 Q Never
  rw [List.append_nil]
  exact (callL_core (A := ⟨F, e, H⟩) w0_no R1 s1 t1 i1 w1 (hl _ _ _ hq) h1).mono fun v H2 ⟨F2, e2, w, R2, a2, t2, r2, h2⟩ => h2 v (r2.early fun b hb => by
    have s1' : Step e.t F e σ H F1 e1 σ H1 := s1
    exact s1'.th b hb)
end
end MV
/-! MVIter: what a loop or a comprehension walks; comprehensions. -/
namespace MV
open PySem PySem.Spec L2

section
variable {G : Gx} {F F' : Fz} {e e' : Env} {σ : L2.St} {H H' : Hp} {s t : Sl} {v w : V} {X : Cx} {m ma mb mc : M W} {a b c x y tg : Expr} {pos p p2 : Pos} {es : List Expr} {u : V} {P : Phi} {f np k : Nat} {I : Info}

/-- the iterator yields the items xs -/
def ItOk (G : Gx) (J : It) (xs : List D) (F0 : Fz) : Prop := ∀ F H, (∀ a o, F.h a = some o → H a = some o) → Fle F0 F → ∀ i,
  (∀ x, xs[i]? = some x → J.go i H ∧ ∀ v H', J.yld i H v H' → H' = H ∧ Is G F x v) ∧ (xs.length ≤ i → J.stop i H)
def RI (G : Gx) (m : M (List D)) : TI := fun σ H R => ∃ F e, Rel G F e σ H ∧ Ex G (W0 σ) ⟨F, e, H⟩ σ m e (fun xs F' e' H' => ∀ J, ItOk G J xs F' → R J H')
theorem PI.imp {wi wi' : TI} (h : PI X tg x wi) (k : ∀ σ H R, wi' σ H R → wi σ H R) : PI X tg x wi' := ⟨fun pins s σ H R I h' => h.run pins s σ H R I (k σ H R h')⟩
theorem itOk_list {K : PySem.W.Frag} {ad : Addr} {xs : List D} {vs : List V} (hG : G.K = K) (h : F.h ad = some (.lst vs)) (hi : IsL G F xs vs) : ItOk G (Itl K ad) xs F := by
  intro F2 H2 sub le i
  have h2 := sub _ _ (le.h _ _ h)
  have hi2 := hi.mono le
  refine ⟨fun x hx => ?_, fun hl => ⟨vs, SqL.of h2, by rw [hi.length]; exact hl⟩⟩
  obtain ⟨v, hv, iv⟩ := hi2.get hx
  refine ⟨⟨vs, v, SqL.of h2, hv⟩, fun v' H' ⟨e1, k⟩ => ⟨e1, ?_⟩⟩
  have := k vs (SqL.of h2)
  rw [hv] at this
  cases this
  exact iv
theorem itOk_tup {K : PySem.W.Frag} {ad : Addr} {xs : List D} {vs : List V} (hG : G.K = K) (h : SqT K F.h ad vs) (hi : IsL G F xs vs) : ItOk G (Itt K ad) xs F := by
  intro F2 H2 sub le i
  have h2 : SqT K H2 ad vs := SqT.le sub (SqT.le le.h h)
  have hi2 := hi.mono le
  refine ⟨fun x hx => ?_, fun hl => ⟨vs, h2, by rw [hi.length]; exact hl⟩⟩
  obtain ⟨v, hv, iv⟩ := hi2.get hx
  refine ⟨⟨vs, v, h2, hv⟩, fun v' H' ⟨e1, k⟩ => ⟨e1, ?_⟩⟩
  have := k vs h2
  rw [hv] at this
  cases this
  exact iv
theorem itOk_str {z : Str} (hl : z.length ≤ 16777216) : ItOk G (Its z) (z.cps.toList.map fun c => .str ⟨#[c]⟩) F := by
  intro F2 H2 sub le i
  refine ⟨fun x hx => ?_, fun h => (show z.cps.size ≤ i by simpa using h)⟩
  obtain ⟨c, hc, e1⟩ := map_get hx
  subst e1
  have hi : i < z.cps.size := by
    have := (List.getElem?_eq_some_iff.mp hc).1
    simpa using this
  refine ⟨hi, fun v H' ⟨e1, c', hc', e2⟩ => ⟨e1, ?_⟩⟩
  rw [← Array.getElem?_toList, hc] at hc'
  cases hc'
  subst e2
  exact Is.str_of (show 1 ≤ 16777216 by decide)
theorem itOk_range {lo : Int} {n : Nat} : ItOk G (Itr lo n) ((List.range n).map fun (k : Nat) => D.int (lo + (k : Int))) F := by
  intro F2 H2 sub le i
  refine ⟨fun x hx => ?_, fun h => (show n ≤ i by simpa using h)⟩
  obtain ⟨c, hc, e1⟩ := map_get hx
  obtain ⟨hi, ec⟩ := List.getElem?_eq_some_iff.mp hc
  rw [List.getElem_range] at ec
  subst ec e1
  refine ⟨(show i < n by simpa using hi), fun v H' ⟨e1, e2⟩ => ⟨e1, ?_⟩⟩
  subst e2
  exact Is.int_of
def srcM (I : Info) (P : Phi) (m : M W) : M (List D) := bnd m fun w => bnd (frz w) fun d => itemsM I P d
/-- a source that is evaluated, up to its items -/
theorem src_core {R : It → Hp → Prop} (h : RI G (srcM I P m) σ H R) : ∃ F e, Rel G F e σ H ∧ RT G W0 m σ H (fun v H1 => ∃ F1 e1 d, bnd m frz e = .ok d e1 ∧ Rel G F1 e1 σ H1 ∧ Is G F1 d v ∧ Ex G (W0 σ) ⟨F, e, H⟩ σ (itemsM I P d) e1 (fun xs F' e' H' => ∀ J, ItOk G J xs F' → R J H') ∧ Anch.to ⟨F, e, H⟩ σ F1 e1 H1 ∧ e1.t = e.t) := by
  obtain ⟨F, e, R0, h⟩ := h
  have h2 : Ex G (W0 σ) ⟨F, e, H⟩ σ (bnd (bnd m frz) fun d => itemsM I P d) e (fun xs F' e' H' => ∀ J, ItOk G J xs F' → R J H') := by
    rw [bnd_assoc]; exact h
  have h3 : Ex G (W0 σ) ⟨F, e, H⟩ σ (bnd m frz) e (fun d _ e1 _ => bnd m frz e = .ok d e1 ∧ Ex G (W0 σ) ⟨F, e, H⟩ σ (itemsM I P d) e1 (fun xs F' e' H' => ∀ J, ItOk G J xs F' → R J H')) := h2.bnd.res
  refine ⟨F, e, R0, RT.mono (Ex.rt (A := ⟨F, e, H⟩) R0 .refl rfl h3) fun v H1 ⟨F1, e1, w, R1, s1, a1, t1, r1, h4⟩ => ?_⟩
  have e0 : bnd (frz w) ret = frz w := by
    funext e
    unfold bnd ret
    cases frz w e <;> rfl
  rw [← e0] at h4
  obtain ⟨F2, e2, d, R2, a2, t2, i2, h5, l2⟩ := h4.frz R1 a1 t1 r1
  obtain ⟨q1, q2⟩ := Ex.ret h5 F2 H1 R2 a2 t2
  exact ⟨F2, e2, d, q1, R2, i2, q2, a2, t2⟩
/-- an own object is walked -/
def OwnI (G : Gx) (X : Cx) (I : Info) (P : Phi) (tg x : Expr) (m : M W) : Prop := ∀ pins s σ H R F e c ns xs e1, Inv X pins σ H s → Rel G F e σ H → bnd m frz e = .ok (.obj c ns xs) e1 →
  RT G W0 m σ H (fun v H1 => ∃ F1 e1 d, bnd m frz e = .ok d e1 ∧ Rel G F1 e1 σ H1 ∧ Is G F1 d v ∧ Ex G (W0 σ) ⟨F, e, H⟩ σ (itemsM I P d) e1 (fun xs F' e' H' => ∀ J, ItOk G J xs F' → R J H') ∧ Anch.to ⟨F, e, H⟩ σ F1 e1 H1 ∧ e1.t = e.t) →
  wpAny (model X.prog X.w) X.A (eval x X.env) (fun v s1 => wpAny (model X.prog X.w) X.A (pyIter v) (PIE X pins σ tg R) X.xe s1) X.xe s
theorem pi_any (hG : G.K = X.K) (hx : PE X x (RT G W0 m)) (hO : OwnI G X I P tg x m) : PI X tg x (RI G (srcM I P m)) := by
  refine ⟨fun pins s σ H J In h => ?_⟩
  obtain ⟨F, e, R0, h⟩ := src_core h
  cases q0 : bnd m frz e with
  | exc _ _ => exact (pi_list (tg := tg) hx).run pins s σ H J In (RT.mono h fun v H1 ⟨F1, e1, d, q, _⟩ => by rw [q0] at q; cases q)
  | stuck => exact (pi_list (tg := tg) hx).run pins s σ H J In (RT.mono h fun v H1 ⟨F1, e1, d, q, _⟩ => by rw [q0] at q; cases q)
  | ok d0 e0 =>
    have dead : (∀ {A : Anch} {e1} {K : KW (List D)}, Ex G (W0 σ) A σ (itemsM I P d0) e1 K → False) → wpAny (model X.prog X.w) X.A (eval x X.env) (fun v s1 => wpAny (model X.prog X.w) X.A (pyIter v) (PIE X pins σ tg J) X.xe s1) X.xe s := fun n =>
      (pi_list (tg := tg) hx).run pins s σ H J In (RT.mono h fun v H1 ⟨F1, e1, d, q, R1, i1, k1, _⟩ => by
        rw [q0] at q
        cases q
        exact (n k1).elim)
    cases d0 with
    | non => exact dead fun h => h
    | bl _ => exact dead fun h => h
    | int _ => exact dead fun h => h
    | scr _ => exact dead fun h => h
    | obj c ns xs => exact hO pins s σ H J F e c ns xs e0 In R0 q0 h
    | lst t xs =>
      refine (pi_list (tg := tg) hx).run pins s σ H J In (RT.mono h fun v H1 ⟨F1, e1, d, q, R1, i1, k1, a1, t1⟩ => ?_)
      rw [q0] at q
      cases q
      rw [Is] at i1
      obtain ⟨ad, vs, ev, h1, _, h2⟩ := i1
      exact ⟨ad, ev, ⟨vs, SqL.of (R1.sub _ _ h1)⟩, Ex.ret (a := xs) k1 F1 H1 R1 a1 t1 _ (itOk_list hG h1 h2)⟩
    | tup xs =>
      refine (pi_tup (tg := tg) hx).run pins s σ H J In (RT.mono h fun v H1 ⟨F1, e1, d, q, R1, i1, k1, a1, t1⟩ => ?_)
      rw [q0] at q
      cases q
      rw [Is] at i1
      obtain ⟨ad, vs, ev, h1, h2⟩ := i1
      rw [hG] at h1
      exact ⟨ad, ev, ⟨vs, SqT.le R1.sub h1⟩, Ex.ret (a := xs) k1 F1 H1 R1 a1 t1 _ (itOk_tup hG h1 h2)⟩
    | str z =>
      refine (pi_str (tg := tg) hx).run pins s σ H J In (RT.mono h fun v H1 ⟨F1, e1, d, q, R1, i1, k1, a1, t1⟩ => ?_)
      rw [q0] at q
      cases q
      rw [Is] at i1
      exact ⟨z, i1.1, Ex.ret (a := z.cps.toList.map fun c => D.str ⟨#[c]⟩) k1 F1 H1 R1 a1 t1 _ (itOk_str i1.2)⟩
/-- range(a, b), range(b) -/
def rngM (ma mb : M W) : M W := bnd ma fun x => bnd mb fun y => bnd (rd x) fun s => bnd (rd y) fun t =>
      bnd (optM (ints2 s t)) fun q => if -4611686018427387904 ≤ q.1 ∧ q.1 < 4611686018427387904 ∧ -4611686018427387904 ≤ q.2 ∧ q.2 < 4611686018427387904 then ret (.d (.tup ((List.range (q.2 - q.1).toNat).map fun (k : Nat) => D.int (q.1 + (k : Int))))) else bad
theorem rng_items {A : Anch} {K : KW (List D)} {l : List D} (h : Ex G (W0 σ) A σ (bnd (ret (.d (.tup l))) fun w => bnd (frz w) fun d => itemsM I P d) e K) : Ex G (W0 σ) A σ (ret l) e K := h
theorem pi_rng2 (hg : Gl X "range") (hm : X.mg "range" = none) (ha : PE X a (RT G W0 ma)) (hb : PE X b (RT G W0 mb)) (hsa : notStar a = true) (hsb : notStar b = true) : PI X tg (.Call (.Name "range" p) [a, b] [] pos) (RI G (srcM I P (rngM ma mb))) := by
  refine PI.imp (pi_range2 hg hm (pa_cons ha (pa_cons hb pa_nil (starEach_of (notStar_of hsb))) (starEach_of (notStar_of hsa))) (by rw [starEach_of (notStar_of hsa), starEach_of (notStar_of hsb)]; rfl) (by rw [starEach_of (notStar_of hsb)]; rfl)) fun σ H R h => ?_
  obtain ⟨F, e, R0, h⟩ := h
  unfold srcM rngM at h
  rw [bnd_assoc] at h
  refine RT.mono (Ex.rt (A := ⟨F, e, H⟩) R0 .refl rfl h) fun v H1 ⟨F1, e1, w1, R1, s1, a1, t1, r1, h1⟩ => ?_
  rw [bnd_assoc] at h1
  refine RT.mono (Ex.rt R1 a1 t1 h1) fun u H2 ⟨F2, e2, w2, R2, s2, a2, t2, r2, h2⟩ => ?_
  rw [bnd_assoc] at h2
  obtain ⟨sx, hx, h2⟩ := h2.rd R2 (r1.step R1 s2)
  rw [bnd_assoc] at h2
  obtain ⟨sy, hy, h2⟩ := h2.rd R2 r2
  rw [bnd_assoc] at h2
  obtain ⟨q, hq, h2⟩ := h2.opt
  obtain ⟨ev, eu⟩ := ints2_of hx hy hq
  split at h2
  · rename_i hb
    exact ⟨q.1, q.2, by rw [ev, eu], by have e0 : (2 : Int) ^ 62 = 4611686018427387904 := (by decide); rw [e0]; omega, Ex.ret (rng_items h2) F2 H2 R2 a2 t2 _ itOk_range⟩
  · exact h2.elim
theorem pi_rng1 (hg : Gl X "range") (hm : X.mg "range" = none) (hb : PE X b (RT G W0 mb)) (hsb : notStar b = true) : PI X tg (.Call (.Name "range" p) [b] [] pos) (RI G (srcM I P (rngM (ret (.d (.int 0))) mb))) := by
  refine PI.imp (pi_range1 hg hm (pa_cons hb pa_nil (starEach_of (notStar_of hsb))) (by rw [starEach_of (notStar_of hsb)]; rfl)) fun σ H R h => ?_
  obtain ⟨F, e, R0, h⟩ := h
  unfold srcM rngM at h
  rw [bnd_assoc, bnd_ret, bnd_assoc] at h
  refine RT.mono (Ex.rt (A := ⟨F, e, H⟩) R0 .refl rfl h) fun u H2 ⟨F2, e2, w2, R2, s2, a2, t2, r2, h2⟩ => ?_
  rw [bnd_assoc] at h2
  obtain ⟨sx, hx, h2⟩ := h2.rd R2 (w := .d (.int 0)) (v := .int 0) (H0 := H2) (show Is G F2 (.int 0) (.int 0) from Is.int_of)
  rw [bnd_assoc] at h2
  obtain ⟨sy, hy, h2⟩ := h2.rd R2 r2
  rw [bnd_assoc] at h2
  obtain ⟨q, hq, h2⟩ := h2.opt
  obtain ⟨ev, eu⟩ := ints2_of hx hy hq
  split at h2
  · rename_i hb
    have e1 : q.1 = 0 := (V.int.inj ev).symm
    rw [e1] at h2
    refine ⟨q.2, by rw [eu], by have e0 : (2 : Int) ^ 62 = 4611686018427387904 := (by decide); rw [e0]; omega, by have e0 : (2 : Int) ^ 62 = 4611686018427387904 := (by decide); rw [e0]; omega, ?_⟩
    have e2 : q.2.toNat = (q.2 - 0).toNat := by rw [Int.sub_zero]
    rw [e2]
    exact Ex.ret (rng_items h2) F2 H2 R2 a2 t2 _ itOk_range
  · exact h2.elim
end
end MV
/-! MVComp: comprehensions. -/
namespace MV
open PySem PySem.Spec L2

section
variable {G : Gx} {F F' : Fz} {e e' : Env} {σ : L2.St} {H H' : Hp} {s t : Sl} {v w : V} {X : Cx} {m ma mb mc melt : M W} {a b c tg : Expr} {pos p p2 : Pos} {es : List Expr} {u : V} {P : Phi} {f np k x : Nat} {I : Info} {z : Option V}

theorem getE_none (e : Env) (x : Nat) : (e.set x none).get x = none := by
  rw [Env.get_set]
  split
  · rfl
  · rename_i h
    cases q : e.get x with
    | none => rfl
    | some s => exact absurd ⟨rfl, Env.get_lt q⟩ h
theorem getE_ne {x j : Nat} (e : Env) (o : Option Sl) (h : j ≠ x) : (e.set x o).get j = e.get j := by
  rw [Env.get_set, if_neg (fun z => h z.1)]
/-- owned by another slot than x -/
theorem own_out {ad : Addr} {o : Option Sl} (n : ∀ c, o ≠ some (.own c)) (h : OwnA (e.set x o) (σ.set x z) ad) : OwnA e σ ad ∧ ∀ o' z', (∃ j c, j ≠ x ∧ (e.set x o').get j = some (.own c) ∧ (σ.set x z')[j]? = some (some (.ref ad))) := by
  obtain ⟨j, c, h1, h2⟩ := h
  have hj : j ≠ x := fun w => by
    subst w
    rw [Env.get_set] at h1
    split at h1
    · exact n c h1
    · rename_i q
      exact q ⟨rfl, Env.get_lt h1⟩
  rw [getE_ne e o hj] at h1
  rw [List.getElem?_set_ne (Ne.symm hj)] at h2
  exact ⟨⟨j, c, h1, h2⟩, fun o' z' => ⟨j, c, hj, by rw [getE_ne e o' hj]; exact h1, by rw [List.getElem?_set_ne (Ne.symm hj)]; exact h2⟩⟩
theorem own_σ {ad : Addr} (n : e.get x = none) (h : OwnA e σ ad) : OwnA e (σ.set x z) ad := by
  obtain ⟨j, c, h1, h2⟩ := h
  have hj : j ≠ x := fun w => by rw [w, n] at h1; cases h1
  exact ⟨j, c, h1, by rw [List.getElem?_set_ne (Ne.symm hj)]; exact h2⟩
theorem own_σ' {ad : Addr} (n : e.get x = none) (h : OwnA e (σ.set x z) ad) : OwnA e σ ad := by
  obtain ⟨j, c, h1, h2⟩ := h
  have hj : j ≠ x := fun w => by rw [w, n] at h1; cases h1
  exact ⟨j, c, h1, by rw [List.getElem?_set_ne (Ne.symm hj)] at h2; exact h2⟩
theorem own_kill {ad : Addr} (h : OwnA (e.set x none) σ ad) : OwnA e σ ad := by
  obtain ⟨j, c, h1, h2⟩ := h
  have hj : j ≠ x := fun w => by rw [w, getE_none] at h1; cases h1
  exact ⟨j, c, by rw [getE_ne e none hj] at h1; exact h1, h2⟩
/-- what the slot x holds is not looked at -/
theorem Rel.wipe (R : Rel G F e σ H) (n : e.get x = none) : Rel G F e (σ.set x z) H := by
  have ne : ∀ {j s}, e.get j = some s → j ≠ x := fun h w => by rw [w, n] at h; cases h
  refine ⟨R.sub, by rw [List.length_set]; exact R.len, fun j y h => ?_, fun j c h => ?_, fun i j c1 c2 ad h1 h2 h3 h4 => ?_, R.ept⟩
  · rw [List.getElem?_set_ne (Ne.symm (ne h))]; exact R.dat j y h
  · rw [List.getElem?_set_ne (Ne.symm (ne h))]; exact R.own j c h
  · rw [List.getElem?_set_ne (Ne.symm (ne h1))] at h3
    rw [List.getElem?_set_ne (Ne.symm (ne h2))] at h4
    exact R.dis i j c1 c2 ad h1 h2 h3 h4
theorem Rel.unwipe (R : Rel G F e (σ.set x z) H) (n : e.get x = none) : Rel G F e σ H := by
  have ne : ∀ {j s}, e.get j = some s → j ≠ x := fun h w => by rw [w, n] at h; cases h
  refine ⟨R.sub, by rw [← List.length_set (as := σ) (i := x) (a := z)]; exact R.len, fun j y h => ?_, fun j c h => ?_, fun i j c1 c2 ad h1 h2 h3 h4 => ?_, R.ept⟩
  · have := R.dat j y h; rw [List.getElem?_set_ne (Ne.symm (ne h))] at this; exact this
  · have := R.own j c h; rw [List.getElem?_set_ne (Ne.symm (ne h))] at this; exact this
  · exact R.dis i j c1 c2 ad h1 h2 (by rw [List.getElem?_set_ne (Ne.symm (ne h1))]; exact h3) (by rw [List.getElem?_set_ne (Ne.symm (ne h2))]; exact h4)
/-- data into a slot -/
theorem Rel.setd (R : Rel G F e σ H) {y : D} (hy : Is G F y v) : Rel G F (e.set x (some (.d y))) (σ.set x (some v)) H := by
  by_cases hx : x < e.sl.length
  · have gx : ∀ {j : Nat}, (e.set x (some (.d y))).get j = if j = x then some (.d y) else e.get j := fun {j} => by
      rw [Env.get_set]
      by_cases c : j = x
      · rw [if_pos ⟨c, hx⟩, if_pos c]
      · rw [if_neg (fun w => c w.1), if_neg c]
    have ne : ∀ {j c}, (e.set x (some (.d y))).get j = some (.own c) → j ≠ x ∧ e.get j = some (.own c) := fun {j c} h => by
      rw [gx] at h
      by_cases w : j = x
      · rw [if_pos w] at h; cases h
      · rw [if_neg w] at h; exact ⟨w, h⟩
    refine ⟨R.sub, by rw [List.length_set]; show (e.sl.set x _).length = _; rw [List.length_set]; exact R.len, fun j q h => ?_, fun j c h => ?_, fun i j c1 c2 ad h1 h2 h3 h4 => ?_, R.ept⟩
    · rw [gx] at h
      by_cases w : j = x
      · rw [if_pos w] at h
        cases h
        subst w
        exact ⟨v, List.getElem?_set_self (by rw [← R.len]; exact hx), hy⟩
      · rw [if_neg w] at h
        rw [List.getElem?_set_ne (Ne.symm w)]
        exact R.dat j q h
    · obtain ⟨w, h⟩ := ne h
      rw [List.getElem?_set_ne (Ne.symm w)]
      exact R.own j c h
    · obtain ⟨w1, h1⟩ := ne h1
      obtain ⟨w2, h2⟩ := ne h2
      rw [List.getElem?_set_ne (Ne.symm w1)] at h3
      rw [List.getElem?_set_ne (Ne.symm w2)] at h4
      exact R.dis i j c1 c2 ad h1 h2 h3 h4
  · have e1 : e.set x (some (.d y)) = e := by
      unfold Env.set
      rw [List.set_eq_of_length_le (by omega)]
    have e2 : σ.set x (some v) = σ := List.set_eq_of_length_le (by rw [← R.len]; omega)
    rw [e1, e2]; exact R
/-- an object that nobody owns is written -/
theorem Rel.upd_free (R : Rel G F e σ H) {ad : Addr} {o : HO} (hf : F.h ad = none) (hn : ¬ OwnA e σ ad) : Rel G F e σ (upd H ad o) := by
  refine ⟨fun b u q => ?_, R.len, R.dat, fun i c q => ?_, R.dis, R.ept⟩
  · have nb : b ≠ ad := fun w => by rw [w, hf] at q; cases q
    rw [upd_ne nb]; exact R.sub b u q
  · obtain ⟨b, h1, h2⟩ := R.own i c q
    exact ⟨b, h1, h2.upd_ne fun w => hn ⟨i, c, q, w ▸ h1⟩⟩
theorem Step.upd_free {T : Nat} {F0 : Fz} {e0 : Env} {s0 : L2.St} {H0 : Hp} (S : Step T F0 e0 s0 H0 F e σ H) {ad : Addr} {o : HO} (hn : H0 ad = none) : Step T F0 e0 s0 H0 F e σ (upd H ad o) :=
  ⟨S.le, S.fr, fun b u q n z => by
    have nb : b ≠ ad := fun w => by rw [w, hn] at q; cases q
    rw [upd_ne nb]; exact S.kp b u q n z, S.ow, fun b q => by
    by_cases w : b = ad
    · rw [w]; exact hn
    · rw [upd_ne w] at q; exact S.th b q, S.tm⟩
/-- a step, seen with other slots -/
theorem Step.see {T : Nat} {F0 : Fz} {e0 e0' : Env} {s0 s0' σ' : L2.St} {H0 : Hp} (S : Step T F0 e0 s0 H0 F e σ H) (h0 : ∀ ad, OwnA e0 s0 ad → OwnA e0' s0' ad) (h1 : ∀ ad, OwnA e' σ' ad → OwnA e σ ad) (t0 : e0'.t = e0.t) (t1 : e'.t = e.t) : Step T F0 e0' s0' H0 F e' σ' H :=
  ⟨S.le, fun b u q => (S.fr b u q).imp id fun w => w.imp id (h0 b), fun b u q n z => S.kp b u q (fun w => n (h0 b w)) z, fun b q => (S.ow b (h1 b q)).imp (h0 b) id, S.th, by rw [t0, t1]; exact S.tm⟩
theorem Ex.noX {α β : Type} {Wx W2 : KW D} {A A2 : Anch} {σ2 : L2.St} {m : M α} {f : α → M β} {K : KW β} (h : Ex G Wx A σ (MV.bnd (MV.noX m) f) e K) : Ex G W2 A2 σ2 m e (fun a _ e1 _ => Ex G Wx A σ (f a) e1 K) := by
  unfold Ex MV.bnd MV.noX at h
  unfold Ex
  cases q : m e with
  | ok a e1 =>
    rw [q] at h
    exact fun _ _ _ _ _ => h
  | exc a e1 => rw [q] at h; exact h.elim
  | stuck => rw [q] at h; exact h.elim

/-- one turn: the tests and the element -/
def TurnB (G : Gx) (body : M (Option D)) (tt : TT) (te : TE) : Prop := ∀ (σ2 : L2.St) F2 e2 H2 (Kb : KW (Option D)) (K1 : V → Hp → Prop) (K0 : Hp → Prop), Rel G F2 e2 σ2 H2 → Ex G (W0 σ2) ⟨F2, e2, H2⟩ σ2 body e2 Kb →
  (∀ y H4 F4 e4 d, Rel G F4 e4 σ2 H4 → Step e2.t F2 e2 σ2 H2 F4 e4 σ2 H4 → e4.t = e2.t → Is G F4 d y → Kb (some d) F4 e4 H4 → K1 y H4) →
  (∀ H4 F4 e4, Rel G F4 e4 σ2 H4 → Step e2.t F2 e2 σ2 H2 F4 e4 σ2 H4 → e4.t = e2.t → Kb none F4 e4 H4 → K0 H4) →
  tt σ2 H2 fun b H3 => if b = true then te σ2 H3 K1 else K0 H3
theorem elt_core {A : Anch} {Kb : KW (Option D)} {K1 : V → Hp → Prop} (R : Rel G F e σ H) (s0 : A.to σ F e H) (t0 : e.t = A.e.t) (h : Ex G (W0 σ) A σ (eltM melt) e Kb)
    (h1 : ∀ y H4 F4 e4 d, Rel G F4 e4 σ H4 → A.to σ F4 e4 H4 → e4.t = A.e.t → Is G F4 d y → Kb (some d) F4 e4 H4 → K1 y H4) : RT G W0 melt σ H K1 := by
  refine RT.mono (Ex.rt R s0 t0 h) fun v H1 ⟨F1, e1, w, R1, s1, a1, t1, r1, h3⟩ => ?_
  have r1' : WRel G F1 e1 σ H1 A.H w v := r1.early fun z hz => s0.th z hz
  obtain ⟨F2, e2, d, R2, a2, t2, i2, h4, l2⟩ := h3.frz R1 a1 t1 r1'
  exact h1 v H1 F2 e2 d R2 a2 t2 i2 (Ex.ret h4 F2 H1 R2 a2 t2)
theorem turnB_elt : TurnB G (eltM melt) tYes (RT G W0 melt) := by
  intro σ2 F2 e2 H2 Kb K1 K0 R h h1 h0
  show (if true = true then RT G W0 melt σ2 H2 K1 else K0 H2)
  rw [if_pos rfl]
  exact elt_core (A := ⟨F2, e2, H2⟩) R .refl rfl h fun y H4 F4 e4 d R4 s4 t4 i4 k4 => h1 y H4 F4 e4 d R4 s4 t4 i4 k4
theorem turnB_cnd : TurnB G (eltCM mc melt) (RTT G W0 mc) (RT G W0 melt) := by
  intro σ2 F2 e2 H2 Kb K1 K0 R h h1 h0
  have e1 : eltCM mc melt = bnd (bnd mc MV.tr) fun k => if k = true then eltM melt else ret none := (bnd_assoc _ _ _).symm
  rw [e1] at h
  refine RTT.mono (RTT.here (A := ⟨F2, e2, H2⟩) R .refl rfl h) fun k H3 ⟨F3, e3, R3, s3, a3, t3, h3⟩ => ?_
  cases k with
  | true =>
    rw [if_pos rfl] at h3 ⊢
    exact elt_core (A := ⟨F2, e2, H2⟩) R3 a3 t3 h3 fun y H4 F4 e4 d R4 s4 t4 i4 k4 => h1 y H4 F4 e4 d R4 s4 t4 i4 k4
  | false =>
    rw [if_neg Bool.false_ne_true] at h3 ⊢
    exact h0 H3 F3 e3 R3 a3 t3 (Ex.ret h3 F3 H3 R3 a3 t3)
theorem lc_imp {m0 : M (List D)} {body : M (Option D)} {tt : TT} {te : TE} {Q : VK} (hT : TurnB G body tt te) (h : RT G W0 (compM x m0 body) σ H Q) : tLc (RI G m0) (gName x) tt te [x] σ H Q := by
  obtain ⟨F, e, R, h⟩ := h
  unfold compM at h
  refine ⟨F, e, R, h.bnd.mono fun xs F1 e1 H1 R1 s1 t1 h1 J hJ D hD => ?_⟩
  have AD : H D = none := s1.th D hD
  let kont : List MV.D → List MV.D → M W := fun l acc => bnd (compLoop x body l acc) fun ys => bnd (setSl x none) fun _ => ret (.new (.lst ys))
  let Kf : KW W := fun w F' e' H' => ∀ v, WRel G F' e' σ H' H w v → Q v H'
  have h1 : Ex G (W0 σ) ⟨F, e, H⟩ σ (kont xs []) (e1.set x none) Kf := h1
  let Wi : Nat → Hp → Prop := fun i H3 => ∃ F' e' acc, Rel G F' e' (σ.set x none) H3 ∧ Fle F1 F' ∧ CellAt G F' H3 D (.lst acc) ∧ ¬ OwnA e' (σ.set x none) D ∧ Anch.to ⟨F, e, H⟩ σ F' (e'.set x none) H3 ∧ e'.t = e.t ∧ Ex G (W0 σ) ⟨F, e, H⟩ σ (kont (xs.drop i) acc) e' Kf
  refine ⟨fun i m H3 => m = xs.length - i ∧ i ≤ xs.length ∧ Wi i H3, ⟨_, rfl, Nat.zero_le _, ?_⟩, ?_⟩
  · obtain ⟨R2, S2⟩ := R1.alloc (o := .lst []) hD
    obtain ⟨fD, nD⟩ := R1.fresh hD
    obtain ⟨R3, S3⟩ := R2.kill (T := e1.t) x
    obtain ⟨R4, S4⟩ := R3.kill (T := e1.t) x
    refine ⟨F1, e1.set x none, [], R3.wipe (getE_none _ _), .refl F1, ⟨fD, [], upd_same, IsL.nil⟩, fun w => nD (own_out (fun _ w => by cases w) w).1, ?_, t1, h1⟩
    have := (S2.trans S3).trans S4
    exact Step.to (A := ⟨F, e, H⟩) s1 t1 this
  · rintro i m H3 ⟨rfl, hi, F', e', acc, R3, le3, c3, n3, s3, t3, h3⟩
    have hJ' := hJ F' H3 R3.sub le3 i
    by_cases hlt : i < xs.length
    · have hx : xs[i]? = some xs[i] := List.getElem?_eq_getElem hlt
      obtain ⟨go, yl⟩ := hJ'.1 _ hx
      refine .inr ⟨go, Wi (i + 1), fun H' w => ⟨xs.length - (i + 1), by omega, rfl, hlt, w⟩, fun v H' hy => ?_⟩
      obtain ⟨eH, iv⟩ := yl v H' hy
      subst eH
      have hdrop : xs.drop i = xs[i] :: xs.drop (i + 1) := List.drop_eq_getElem_cons hlt
      rw [hdrop] at h3
      show wipe ((σ.set x none).set x (some v)) [x] = wipe σ [x] ∧ _
      refine ⟨by unfold L2.wipe L2.wipe; simp [List.set_set], ?_⟩
      have R5 := R3.setd (x := x) iv
      have h4 : Ex G (W0 σ) ⟨F, e, H⟩ σ (bnd (noX body) fun r => bnd (bnd (setSl x none) fun _ => match r with
          | some z => if acc.length < 16777216 then compLoop x body (xs.drop (i + 1)) (acc ++ [z]) else bad
          | none => compLoop x body (xs.drop (i + 1)) acc) fun ys => bnd (setSl x none) fun _ => ret (.new (.lst ys))) (e'.set x (some (.d xs[i]))) Kf := by
        rw [← bnd_assoc]; exact h3
      have hb := h4.noX (W2 := W0 ((σ.set x none).set x (some v))) (A2 := ⟨F', e'.set x (some (.d xs[i])), H'⟩) (σ2 := (σ.set x none).set x (some v))
      have n5 : ¬ OwnA (e'.set x (some (.d xs[i]))) ((σ.set x none).set x (some v)) D := fun w => n3 (own_out (fun _ w => by cases w) w).1
      have see : ∀ {F4 e4 H4}, Step e'.t F' (e'.set x (some (.d xs[i]))) ((σ.set x none).set x (some v)) H' F4 e4 ((σ.set x none).set x (some v)) H4 → Step e'.t F' (e'.set x none) σ H' F4 ((e4.set x none).set x none) σ H4 := fun {F4 e4 H4} S4 => by
        refine S4.see (fun ad w => ?_) (fun ad w => ?_) rfl rfl
        · obtain ⟨j, c, hj, w1, w2⟩ := (own_out (fun _ w => by cases w) w).2 none none
          exact ⟨j, c, w1, by rw [List.getElem?_set_ne (Ne.symm hj), List.getElem?_set_ne (Ne.symm hj)] at w2; exact w2⟩
        · obtain ⟨j, c, w1, w2⟩ := own_kill w
          have hj : j ≠ x := fun w => by rw [w, getE_none] at w1; cases w1
          exact ⟨j, c, by rw [getE_ne _ _ hj] at w1; exact w1, by rw [List.getElem?_set_ne (Ne.symm hj), List.getElem?_set_ne (Ne.symm hj)]; exact w2⟩
      have σe : ((σ.set x none).set x (some v)).set x none = σ.set x none := by simp [List.set_set]
      refine hT ((σ.set x none).set x (some v)) F' _ H' _ _ _ R5 hb (fun y H4 F4 e4 d R4 S4 t4 i4 k4 => ?_) (fun H4 F4 e4 R4 S4 t4 k4 => ?_)
      · obtain ⟨c4, n4⟩ := c3.step R5 S4 n5
        obtain ⟨f4, vs4, z4, l4⟩ := c4
        have S4' : Step e'.t F' (e'.set x (some (.d xs[i]))) ((σ.set x none).set x (some v)) H' F4 e4 ((σ.set x none).set x (some v)) H4 := S4
        by_cases hlen : acc.length < 16777216
        · refine ⟨vs4, z4, by rw [l4.length, sizeLine_eq]; exact hlen, F4, e4.set x none, acc ++ [d], ?_, le3.trans (R5.fle S4), ⟨f4, _, upd_same, l4.app (IsL.cons i4 IsL.nil)⟩, fun w => ?_, ?_, t4.trans t3, ?_⟩
          · have := ((R4.upd_free (o := .lst (vs4 ++ [y])) f4 n4).kill (T := 0) x).1.wipe (z := none) (getE_none _ _)
            rw [σe] at this
            exact this
          · refine n4 (own_out (x := x) (z := none) (o := none) (fun _ w => by cases w) ?_).1
            rw [σe]; exact w
          · have s5 := Step.to (A := ⟨F, e, H⟩) (e := e'.set x none) s3 t3 (see S4')
            exact Step.upd_free s5 AD
          · have k5 : Ex G (W0 σ) ⟨F, e, H⟩ σ (bnd (if acc.length < 16777216 then compLoop x body (xs.drop (i + 1)) (acc ++ [d]) else bad) fun ys => bnd (setSl x none) fun _ => ret (.new (.lst ys))) (e4.set x none) Kf := k4
            rw [if_pos hlen] at k5
            exact k5
        · have k5 : Ex G (W0 σ) ⟨F, e, H⟩ σ (bnd (if acc.length < 16777216 then compLoop x body (xs.drop (i + 1)) (acc ++ [d]) else bad) fun ys => bnd (setSl x none) fun _ => ret (.new (.lst ys))) (e4.set x none) Kf := k4
          rw [if_neg hlen] at k5
          exact k5.elim
      · obtain ⟨c4, n4⟩ := c3.step R5 S4 n5
        have S4' : Step e'.t F' (e'.set x (some (.d xs[i]))) ((σ.set x none).set x (some v)) H' F4 e4 ((σ.set x none).set x (some v)) H4 := S4
        refine ⟨F4, e4.set x none, acc, ?_, le3.trans (R5.fle S4), c4, fun w => ?_, ?_, t4.trans t3, k4⟩
        · have := (R4.kill (T := 0) x).1.wipe (z := none) (getE_none _ _)
          rw [σe] at this
          exact this
        · refine n4 (own_out (x := x) (z := none) (o := none) (fun _ w => by cases w) ?_).1
          rw [σe]; exact w
        · exact Step.to (A := ⟨F, e, H⟩) (e := e'.set x none) s3 t3 (see S4')
    · have ei : i = xs.length := by omega
      subst ei
      refine .inl ⟨hJ'.2 (Nat.le_refl _), ?_⟩
      rw [List.drop_length] at h3
      have h4 : Ex G (W0 σ) ⟨F, e, H⟩ σ (ret (.new (.lst acc))) (e'.set x none) Kf := h3
      have R4 := ((R3.kill (T := 0) x).1).unwipe (getE_none _ _)
      exact Ex.ret h4 F' H3 R4 s3 t3 (.ref D) ⟨D, rfl, c3, fun w => n3 (own_σ' (z := none) (getE_none _ _) (own_σ (getE_none _ _) w) |> fun w => own_kill (own_σ (getE_none _ _) w)), AD⟩
end
end MV
/-! MVStm: statements. -/
namespace MV
open PySem PySem.Spec L2

structure SAn where
  F : Fz
  e : Env
  σ : L2.St
  H : Hp
/-- a statement's step -/
structure StepS (tp : Bool) (br : List Nat) (A : SAn) (F : Fz) (e : Env) (σ : L2.St) (H : Hp) : Prop where
  st : Step (if tp = true then 0 else A.e.t) A.F A.e A.σ A.H F e σ H
  tm : tp = false → e.t = A.e.t
  br : ∀ j ∈ br, σ[j]? = A.σ[j]?
abbrev KS (α : Type) := α → Fz → Env → L2.St → Hp → Prop
def ExS {α : Type} (G : Gx) (tp : Bool) (br : List Nat) (A : SAn) (m : M α) (e : Env) (K : KS α) : Prop := match m e with
  | .ok a e' => ∀ F' σ' H', Rel G F' e' σ' H' → StepS tp br A F' e' σ' H' → K a F' e' σ' H'
  | _ => False
/-- what stays true since the def's beginning -/
structure Base (br : List Nat) (H0 : Hp) (σ0 : L2.St) (e : Env) (σ : L2.St) (H : Hp) : Prop where
  th : ∀ a, H a = none → H0 a = none
  ow : ∀ a, OwnA e σ a → (∃ j ∈ br, σ0[j]? = some (some (.ref a))) ∨ H0 a = none
  br : ∀ j ∈ br, σ[j]? = σ0[j]?
/-- what is wanted behind a statement -/
def KD (G : Gx) (br : List Nat) (D : Ends) (H0 : Hp) : KS Fl := fun fl F e σ H => match fl with
  | .next => D.nx σ H
  | .brk => D.bk σ H
  | .cont => D.ct σ H
  | .ret s => ∀ v, WRel G F e σ H H0 (slW s) v → D.rt v H
def RS (G : Gx) (tp : Bool) (br : List Nat) (m : M Fl) : TS := fun D σ H => ∃ H0 σ0 F e, Rel G F e σ H ∧ Base br H0 σ0 e σ H ∧ ExS G tp br ⟨F, e, σ, H⟩ m e (KD G br D H0)

section
variable {G : Gx} {F F' F1 F2 : Fz} {e e' e1 e2 : Env} {σ σ' σ1 σ2 : L2.St} {H H' H0 H1 H2 : Hp} {s t : Sl} {v w : V} {X : Cx} {m ma mb mc melt : M W} {a b c x tg : Expr} {pos p p2 : Pos} {es : List Expr} {u : V} {P : Phi} {f np k i fuel : Nat} {I : Info} {tp : Bool} {br : List Nat} {σ0 : L2.St}
  {α β : Type} {A : SAn}

theorem StepS.refl : StepS tp br ⟨F, e, σ, H⟩ F e σ H := ⟨.refl, fun _ => rfl, fun _ _ => rfl⟩
theorem StepS.trans (h : StepS tp br A F1 e1 σ1 H1) (h2 : StepS tp br ⟨F1, e1, σ1, H1⟩ F2 e2 σ2 H2) : StepS tp br A F2 e2 σ2 H2 := by
  refine ⟨?_, fun z => (h2.tm z).trans (h.tm z), fun j hj => (h2.br j hj).trans (h.br j hj)⟩
  cases tp with
  | true => exact h.st.trans h2.st
  | false =>
    have q := h2.st
    rw [if_neg Bool.false_ne_true] at q
    have e0 : e1.t = A.e.t := h.tm rfl
    have q' : Step e1.t F1 e1 σ1 H1 F2 e2 σ2 H2 := q
    rw [e0] at q'
    have q1 := h.st
    rw [if_neg Bool.false_ne_true] at q1 ⊢
    exact q1.trans q'
theorem StepS.of (h : Step e.t F e σ H F' e' σ H') (t : e'.t = e.t) : StepS tp br ⟨F, e, σ, H⟩ F' e' σ H' := by
  refine ⟨h.base ?_, fun _ => t, fun _ _ => rfl⟩
  cases tp with
  | true => exact Nat.zero_le _
  | false => exact Nat.le_refl _
theorem StepS.weak (h : StepS false br A F e σ H) : StepS true br A F e σ H := ⟨h.st.base (Nat.zero_le _), (by intro z; cases z), h.br⟩
theorem Base.step (B : Base br H0 σ0 e σ H) (S : StepS tp br ⟨F, e, σ, H⟩ F' e' σ' H') : Base br H0 σ0 e' σ' H' :=
  ⟨fun a h => B.th a (S.st.th a h), fun a h => (S.st.ow a h).elim (B.ow a) fun z => .inr (B.th a z), fun j hj => (S.br j hj).trans (B.br j hj)⟩

theorem ExS.bnd {m : M α} {f : α → M β} {K : KS β} (h : ExS G tp br A (MV.bnd m f) e K) : ExS G tp br A m e (fun a _ e1 _ _ => ExS G tp br A (f a) e1 K) := by
  unfold ExS MV.bnd at h
  unfold ExS
  cases q : m e with
  | ok a e1 => rw [q] at h; exact fun _ _ _ _ _ => h
  | exc a e1 => rw [q] at h; exact h
  | stuck => rw [q] at h; exact h
theorem ExS.mono {m : M α} {K K2 : KS α} (h : ExS G tp br A m e K) (k : ∀ a F' e' σ' H', Rel G F' e' σ' H' → StepS tp br A F' e' σ' H' → K a F' e' σ' H' → K2 a F' e' σ' H') : ExS G tp br A m e K2 := by
  unfold ExS at h ⊢
  cases q : m e with
  | ok a e1 =>
    rw [q] at h
    exact fun F' σ' H' R S => k _ _ _ _ _ R S (h F' σ' H' R S)
  | exc a e1 => rw [q] at h; exact h
  | stuck => rw [q] at h; exact h
theorem ExS.later {m : M α} {K : KS α} (h : ExS G tp br A m e K) (S : StepS tp br A F1 e1 σ1 H1) : ExS G tp br ⟨F1, e1, σ1, H1⟩ m e K := by
  unfold ExS at h ⊢
  cases q : m e with
  | ok a e1 =>
    rw [q] at h
    exact fun F' σ' H' R S' => h F' σ' H' R (S.trans S')
  | exc a e1 => rw [q] at h; exact h
  | stuck => rw [q] at h; exact h
theorem ExS.ret {a : α} {K : KS α} (h : ExS G tp br A (MV.ret a) e K) (R : Rel G F' e σ' H') (S : StepS tp br A F' e σ' H') : K a F' e σ' H' := h F' σ' H' R S
/-- an expression's evaluation, a statement's part -/
theorem ExS.ex {A' : Anch} {m : M α} {f : α → M β} {K : KS β} (h : ExS G tp br A (MV.bnd m f) e K) : Ex G (W0 σ) A' σ m e (fun a _ e1 _ => ExS G tp br A (f a) e1 K) := by
  unfold ExS MV.bnd at h
  unfold Ex
  cases q : m e with
  | ok a e1 => rw [q] at h; exact fun _ _ _ _ _ => h
  | exc a e1 => rw [q] at h; exact h.elim
  | stuck => rw [q] at h; exact h
theorem ExS.rt {m : M W} {f : W → M β} {K : KS β} (R : Rel G F e σ H) (h : ExS G tp br A (MV.bnd m f) e K) :
    RT G W0 m σ H (fun v H1 => ∃ F1 e1 w, Rel G F1 e1 σ H1 ∧ Step e.t F e σ H F1 e1 σ H1 ∧ e1.t = e.t ∧ WRel G F1 e1 σ H1 H w v ∧ ExS G tp br A (f w) e1 K) :=
  ⟨F, e, R, (ExS.ex (A' := ⟨F, e, H⟩) h).mono fun w F1 e1 H1 R1 s1 t1 h1 v r => ⟨F1, e1, w, R1, s1, t1, r, h1⟩⟩
theorem ExS.rd {w : W} {H9 : Hp} {f : Sl → M β} {K : KS β} (R : Rel G F e σ H) (r : WRel G F e σ H H9 w v) (h : ExS G tp br A (MV.bnd (MV.rd w) f) e K) : ∃ s, SlRel G F H s v ∧ ExS G tp br A (f s) e K := by
  cases w with
  | d x => exact ⟨.d x, r, h⟩
  | new c =>
    obtain ⟨a, e1, h1, _, _⟩ := r
    exact ⟨.own c, ⟨a, e1, h1⟩, h⟩
  | at_ i =>
    cases q : e.get i with
    | none =>
      have q' : MV.bnd (MV.rd (.at_ i)) f e = .stuck := by unfold MV.bnd MV.rd; simp only [q]
      unfold ExS at h
      rw [q'] at h
      exact h.elim
    | some s =>
      have q' : MV.bnd (MV.rd (.at_ i)) f e = f s e := by unfold MV.bnd MV.rd; simp only [q]
      unfold ExS at h
      rw [q'] at h
      have r' : σ[i]? = some (some v) := r
      refine ⟨s, ?_, h⟩
      cases s with
      | d x =>
        obtain ⟨v', h1, h2⟩ := R.dat i x q
        rw [r'] at h1; cases h1
        exact h2
      | own c =>
        obtain ⟨a, h1, h2⟩ := R.own i c q
        rw [r'] at h1; cases h1
        exact ⟨a, rfl, h2⟩
theorem ExS.opt {o : Option α} {f : α → M β} {K : KS β} (h : ExS G tp br A (MV.bnd (optM o) f) e K) : ∃ a, o = some a ∧ ExS G tp br A (f a) e K := by
  cases o with
  | none => exact h.elim
  | some a => exact ⟨a, rfl, h⟩
theorem ExS.tr {wv : W} {H9 : Hp} {f : Bool → M β} {K : KS β} (R : Rel G F e σ H) (r : WRel G F e σ H H9 wv v) (h : ExS G tp br A (MV.bnd (MV.tr wv) f) e K) : ∃ k, TruV G.K v H k ∧ ExS G tp br A (f k) e K := by
  unfold MV.tr at h
  rw [bnd_assoc] at h
  obtain ⟨sl, hs, h⟩ := h.rd R r
  obtain ⟨k, hk, h⟩ := h.opt
  exact ⟨k, tru_of R hs hk, h⟩
theorem ExS.rtt {f : Bool → M β} {K : KS β} (R : Rel G F e σ H) (h : ExS G tp br A (MV.bnd (MV.bnd m MV.tr) f) e K) :
    RTT G W0 m σ H (fun k H1 => ∃ F1 e1, Rel G F1 e1 σ H1 ∧ Step e.t F e σ H F1 e1 σ H1 ∧ e1.t = e.t ∧ ExS G tp br A (f k) e1 K) :=
  ⟨F, e, R, (ExS.ex (A' := ⟨F, e, H⟩) h).mono fun k F1 e1 H1 R1 s1 t1 h1 => ⟨F1, e1, R1, s1, t1, h1⟩⟩
/-- freezing, a statement's part: A9 is where the evaluation began -/
theorem ExS.frz {w : W} {A9 : Anch} {f : D → M β} {K : KS β} (R : Rel G F e σ H) (s : A9.to σ F e H) (t : e.t = A9.e.t) (r : WRel G F e σ H A9.H w v) (h : ExS G tp br A (MV.bnd (MV.frz w) f) e K) :
    ∃ F1 e1 d, Rel G F1 e1 σ H ∧ A9.to σ F1 e1 H ∧ e1.t = A9.e.t ∧ Is G F1 d v ∧ ExS G tp br A (f d) e1 K := by
  have h0 : Ex G (W0 σ) A9 σ (MV.bnd (MV.frz w) MV.ret) e (fun d _ e1 _ => ExS G tp br A (f d) e1 K) := by
    have e0 : MV.bnd (MV.frz w) MV.ret = MV.frz w := by
      funext e
      unfold MV.bnd MV.ret
      cases MV.frz w e <;> rfl
    rw [e0]
    exact ExS.ex h
  obtain ⟨F1, e1, d, R1, a1, t1, i1, h1, _⟩ := h0.frz R s t r
  exact ⟨F1, e1, d, R1, a1, t1, i1, Ex.ret h1 F1 H R1 a1 t1⟩

theorem PS.imp {st : Stmt} {t t' : TS} (h : PS X st t) (k : ∀ D σ H, t' D σ H → t D σ H) : PS X st t' := ⟨fun pins s σ H D I h' => h.run pins s σ H D I (k D σ H h')⟩
theorem PSs.imp {st : List Stmt} {t t' : TS} (h : PSs X st t) (k : ∀ D σ H, t' D σ H → t D σ H) : PSs X st t' := ⟨fun pins s σ H D I h' => h.run pins s σ H D I (k D σ H h')⟩
theorem RS.weak {mf : M Fl} {D : Ends} (h : RS G true br mf D σ H) : RS G false br mf D σ H := by
  obtain ⟨H0, σ0, F, e, R, B, h⟩ := h
  refine ⟨H0, σ0, F, e, R, B, ?_⟩
  unfold ExS at h ⊢
  cases q : mf e with
  | ok a e1 => rw [q] at h; exact fun F' σ' H' R S => h F' σ' H' R S.weak
  | exc a e1 => rw [q] at h; exact h
  | stuck => rw [q] at h; exact h

/-! ### blocks -/
theorem ss_nil : PSs X [] (RS G tp br (ret .next)) := PSs.imp pss_nil fun D σ H ⟨H0, σ0, F, e, R, B, h⟩ => ExS.ret h R .refl
def seqM (m1 m2 : M Fl) : M Fl := bnd m1 fun
    | .next => m2
    | f => ret f
theorem ss_cons {st : Stmt} {rest : List Stmt} {m1 m2 : M Fl} (h1 : PS X st (RS G tp br m1)) (h2 : PSs X rest (RS G tp br m2)) : PSs X (st :: rest) (RS G tp br (seqM m1 m2)) := by
  refine PSs.imp (pss_cons h1 h2) fun D σ H ⟨H0, σ0, F, e, R, B, h⟩ => ?_
  refine ⟨H0, σ0, F, e, R, B, (ExS.bnd h).mono fun fl F1 e1 σ1 H1 R1 S1 h3 => ?_⟩
  cases fl with
  | next => exact ⟨H0, σ0, F1, e1, R1, B.step S1, h3.later S1⟩
  | brk => exact ExS.ret (a := Fl.brk) h3 R1 S1
  | cont => exact ExS.ret (a := Fl.cont) h3 R1 S1
  | ret s => exact ExS.ret (a := Fl.ret s) h3 R1 S1
theorem ss_ite {ia ib : List Stmt} {m1 m2 : M Fl} (hc : PT X c (RTT G W0 mc)) (h1 : PSs X ia (RS G tp br m1)) (h2 : PSs X ib (RS G tp br m2)) : PS X (.If c ia ib pos) (RS G tp br (bnd mc fun x => bnd (MV.tr x) fun k => if k = true then m1 else m2)) := by
  refine PS.imp (ps_if hc h1 h2) fun D σ H ⟨H0, σ0, F, e, R, B, h⟩ => ?_
  rw [← bnd_assoc] at h
  refine RTT.mono (ExS.rtt R h) fun k H1 ⟨F1, e1, R1, s1, t1, h1⟩ => ?_
  have S1 : StepS tp br ⟨F, e, σ, H⟩ F1 e1 σ H1 := .of s1 t1
  cases k with
  | true => rw [if_pos rfl] at h1 ⊢; exact ⟨H0, σ0, F1, e1, R1, B.step S1, h1.later S1⟩
  | false => rw [if_neg Bool.false_ne_true] at h1 ⊢; exact ⟨H0, σ0, F1, e1, R1, B.step S1, h1.later S1⟩
theorem ss_pass : PS X (.Pass pos) (RS G tp br (ret .next)) := PS.imp ps_pass fun D σ H ⟨H0, σ0, F, e, R, B, h⟩ => ExS.ret h R .refl
theorem ss_brk : PS X (.Break pos) (RS G tp br (ret .brk)) := PS.imp ps_break fun D σ H ⟨H0, σ0, F, e, R, B, h⟩ => ExS.ret h R .refl
theorem ss_cont : PS X (.Continue pos) (RS G tp br (ret .cont)) := PS.imp ps_continue fun D σ H ⟨H0, σ0, F, e, R, B, h⟩ => ExS.ret h R .refl
theorem ss_bad {st : Stmt} : PS X st (RS G tp br bad) := PS.imp ps_never fun D σ H ⟨H0, σ0, F, e, R, B, h⟩ => h.elim

/-! ### expressions, return -/
def swapB : Expr → Bool
  | .ListComp _ _ _ _ => false
  | .SetComp _ _ _ _ => false
  | .DictComp _ _ _ _ _ => false
  | _ => true
theorem swap_of (h : swapB x = true) {o : Option Expr} {l : Nat} {env : PySem.Env} : swapsWith x o l env = pure false := by
  cases x <;> first | rfl | cases h
theorem ss_expr (hx : PE X x (RT G W0 m)) (hs : swapB x = true) : PS X (.Expr x pos) (RS G tp br (bnd m fun _ => ret .next)) := by
  refine PS.imp (ps_expr hx (swap_of hs)) fun D σ H ⟨H0, σ0, F, e, R, B, h⟩ => ?_
  exact RT.mono (ExS.rt R h) fun v H1 ⟨F1, e1, w, R1, s1, t1, r1, h1⟩ => ExS.ret h1 R1 (.of s1 t1)
theorem out_core {D : Ends} {A : SAn} {A9 : Anch} {wv : W} (R : Rel G F e σ H) (B : Base br H0 σ0 e σ H) (s9 : A9.to σ F e H) (t9 : e.t = A9.e.t) (S : StepS tp br A F e σ H) (hA : ∀ F1 e1, A9.to σ F1 e1 H → e1.t = A9.e.t → StepS tp br A F1 e1 σ H) (h9 : ∀ ad, A9.H ad = none → H0 ad = none)
    (r : WRel G F e σ H A9.H wv v) (h : ExS G tp br A (bnd (out br wv) fun s => ret (.ret s)) e (KD G br D H0)) : D.rt v H := by
  cases wv with
  | d z => exact ExS.ret (a := Fl.ret (.d z)) h R S v r
  | new c =>
    obtain ⟨ad, e1, h1, h2, h3⟩ := r
    exact ExS.ret (a := Fl.ret (.own c)) h R S v ⟨ad, e1, h1, h2, h9 _ h3⟩
  | at_ i =>
    by_cases hi : i ∈ br
    · have h' : ExS G tp br A (bnd (MV.frz (.at_ i)) fun x => ret (.ret (.d x))) e (KD G br D H0) := by
        have e0 : (bnd (out br (.at_ i)) fun s => ret (Fl.ret s)) e = (bnd (MV.frz (.at_ i)) fun x => ret (Fl.ret (.d x))) e := by
          unfold out bnd
          dsimp only
          rw [if_pos hi]
          cases MV.frz (.at_ i) e <;> rfl
        unfold ExS at h ⊢
        rw [e0] at h
        exact h
      obtain ⟨F1, e1, d, R1, a1, t1, i1, h3⟩ := h'.frz R s9 t9 r
      exact ExS.ret (a := Fl.ret (.d d)) h3 R1 (hA F1 e1 a1 t1) v i1
    · unfold ExS out bnd at h
      dsimp only at h
      rw [if_neg hi] at h
      have r' : σ[i]? = some (some v) := r
      cases q : e.get i with
      | none => rw [q] at h; exact h.elim
      | some sl =>
        rw [q] at h
        cases sl with
        | d z => exact h.elim
        | own c =>
          dsimp only at h
          by_cases hb : br.all (isOwn e) = true
          · rw [if_pos hb] at h
            obtain ⟨ad, k1, k2⟩ := R.own i c q
            rw [r'] at k1
            cases k1
            obtain ⟨R2, S2⟩ := R.kill (T := e.t) i
            have S3 : StepS tp br A F (e.set i none) σ H := by
              refine ⟨S.st.trans ((R.kill (T := _) i).2), fun z => S.tm z, S.br⟩
            refine h F σ H R2 S3 _ ⟨ad, rfl, k2, fun ⟨j, c', w1, w2⟩ => ?_, ?_⟩
            · have hj : j ≠ i := fun w => by rw [w, getE_none] at w1; cases w1
              rw [getE_ne _ _ hj] at w1
              exact hj (R.dis j i c' c ad w1 q w2 r')
            · rcases B.ow ad ⟨i, c, q, r'⟩ with ⟨j, hj, w⟩ | w
              · exfalso
                have hj2 := List.all_eq_true.mp hb j hj
                unfold isOwn at hj2
                split at hj2
                · rename_i c' hc'
                  rw [← B.br j hj] at w
                  have := R.dis j i c' c ad hc' q w r'
                  exact hi (this ▸ hj)
                · cases hj2
              · exact w
          · rw [if_neg hb] at h; exact h.elim
theorem ss_ret (hx : PE X x (RT G W0 m)) : PS X (.Return (some x) pos) (RS G tp br (bnd m fun w => bnd (out br w) fun s => ret (.ret s))) := by
  refine PS.imp (ps_ret hx) fun D σ H ⟨H0, σ0, F, e, R, B, h⟩ => ?_
  refine RT.mono (ExS.rt R h) fun v H1 ⟨F1, e1, w, R1, s1, t1, r1, h1⟩ => ?_
  have S1 : StepS tp br ⟨F, e, σ, H⟩ F1 e1 σ H1 := .of s1 t1
  exact out_core (A9 := ⟨F, e, H⟩) R1 (B.step S1) s1 t1 S1 (fun F2 e2 a2 t2 => .of a2 t2) (fun ad z => B.th ad z) r1 h1
end
end MV
/-! MVStm2: assignments. -/
namespace MV
open PySem PySem.Spec L2

section
variable {G : Gx} {F F' F1 F2 : Fz} {e e' e1 e2 : Env} {σ σ' σ1 σ2 : L2.St} {H H' H0 H1 H2 : Hp} {s t : Sl} {v w : V} {X : Cx} {m ma mb mc melt : M W} {a b c x tg : Expr} {pos p p2 : Pos} {es : List Expr} {u : V} {P : Phi} {f np k i fuel : Nat} {I : Info} {tp : Bool} {br : List Nat} {σ0 : L2.St}
  {α β : Type} {A : SAn} {n : Str}

/-- an own object into a slot -/
theorem Rel.seto (R : Rel G F e σ H) {ad : Addr} {c : Cell} (hc : CellAt G F H ad c) (hn : ¬ OwnA e σ ad) : Rel G F (e.set i (some (.own c))) (σ.set i (some (.ref ad))) H := by
  by_cases hx : i < e.sl.length
  · have gx : ∀ {j : Nat}, (e.set i (some (.own c))).get j = if j = i then some (.own c) else e.get j := fun {j} => by
      rw [Env.get_set]
      by_cases c : j = i
      · rw [if_pos ⟨c, hx⟩, if_pos c]
      · rw [if_neg (fun w => c w.1), if_neg c]
    have hx' : i < σ.length := by rw [← R.len]; exact hx
    refine ⟨R.sub, by rw [List.length_set]; show (e.sl.set i _).length = _; rw [List.length_set]; exact R.len, fun j q h => ?_, fun j c' h => ?_, fun j l c1 c2 bd h1 h2 h3 h4 => ?_, R.ept⟩
    · rw [gx] at h
      by_cases w : j = i
      · rw [if_pos w] at h; cases h
      · rw [if_neg w] at h
        rw [List.getElem?_set_ne (Ne.symm w)]
        exact R.dat j q h
    · rw [gx] at h
      by_cases w : j = i
      · rw [if_pos w] at h
        cases h
        subst w
        exact ⟨ad, List.getElem?_set_self hx', hc⟩
      · rw [if_neg w] at h
        rw [List.getElem?_set_ne (Ne.symm w)]
        exact R.own j c' h
    · rw [gx] at h1 h2
      by_cases w1 : j = i
      · by_cases w2 : l = i
        · exact w1.trans w2.symm
        · subst w1
          rw [if_neg w2] at h2
          rw [List.getElem?_set_self hx'] at h3
          rw [List.getElem?_set_ne (Ne.symm w2)] at h4
          cases h3
          exact absurd ⟨l, c2, h2, h4⟩ hn
      · by_cases w2 : l = i
        · subst w2
          rw [if_neg w1] at h1
          rw [List.getElem?_set_self hx'] at h4
          rw [List.getElem?_set_ne (Ne.symm w1)] at h3
          cases h4
          exact absurd ⟨j, c1, h1, h3⟩ hn
        · rw [if_neg w1] at h1
          rw [if_neg w2] at h2
          rw [List.getElem?_set_ne (Ne.symm w1)] at h3
          rw [List.getElem?_set_ne (Ne.symm w2)] at h4
          exact R.dis j l c1 c2 bd h1 h2 h3 h4
  · have e1 : e.set i (some (.own c)) = e := by
      unfold Env.set
      rw [List.set_eq_of_length_le (by omega)]
    have e2 : σ.set i (some (.ref ad)) = σ := List.set_eq_of_length_le (by rw [← R.len]; omega)
    rw [e1, e2]; exact R
theorem own_setd {ad : Addr} {y : D} {z : Option V} (h : OwnA (e.set i (some (.d y))) (σ.set i z) ad) : OwnA e σ ad := (own_out (fun _ w => by cases w) h).1
theorem own_seto {ad bd : Addr} {c : Cell} (h : OwnA (e.set i (some (.own c))) (σ.set i (some (.ref ad))) bd) : OwnA e σ bd ∨ bd = ad := by
  obtain ⟨j, c', h1, h2⟩ := h
  by_cases w : j = i
  · subst w
    have hj : j < (σ.set j (some (V.ref ad))).length := (List.getElem?_eq_some_iff.mp h2).1
    rw [List.length_set] at hj
    rw [List.getElem?_set_self hj] at h2
    cases h2
    exact .inr rfl
  · rw [getE_ne _ _ w] at h1
    rw [List.getElem?_set_ne (Ne.symm w)] at h2
    exact .inl ⟨j, c', h1, h2⟩
/-- the step of a store of data -/
theorem StepS.setd (S : StepS tp br A F e σ H) (hi : i ∉ br) {y : D} {z : Option V} : StepS tp br A F (e.set i (some (.d y))) (σ.set i z) H :=
  ⟨⟨S.st.le, S.st.fr, S.st.kp, fun b h => S.st.ow b (own_setd h), S.st.th, S.st.tm⟩, S.tm, fun j hj => by
    rw [List.getElem?_set_ne (show i ≠ j from fun w => hi (by rw [w]; exact hj))]; exact S.br j hj⟩
theorem StepS.seto (S : StepS tp br A F e σ H) (hi : i ∉ br) {ad : Addr} {c : Cell} (hn : A.H ad = none) : StepS tp br A F (e.set i (some (.own c))) (σ.set i (some (.ref ad))) H :=
  ⟨⟨S.st.le, S.st.fr, S.st.kp, fun b h => (own_seto h).elim (S.st.ow b) fun w => .inr (w ▸ hn), S.st.th, S.st.tm⟩, S.tm, fun j hj => by
    rw [List.getElem?_set_ne (show i ≠ j from fun w => hi (by rw [w]; exact hj))]; exact S.br j hj⟩
def asgM (i : Nat) (m : M W) : M Fl := bnd m fun w => bnd (sto w) fun s => bnd (setSl i (some s)) fun _ => ret .next
/-- the value is stored -/
theorem sto_core {D : Ends} {wv : W} (hi : i ∉ br) (R : Rel G F e σ H) (s9 : Anch.to ⟨F1, e1, H1⟩ σ F e H) (t9 : e.t = e1.t) (r : WRel G F e σ H H1 wv v)
    (h : ExS G tp br ⟨F1, e1, σ, H1⟩ (bnd (sto wv) fun s => bnd (setSl i (some s)) fun _ => ret .next) e (KD G br D H0)) : D.nx (σ.set i (some v)) H := by
  have S : ∀ F2 e2, Anch.to ⟨F1, e1, H1⟩ σ F2 e2 H → e2.t = e1.t → StepS tp br ⟨F1, e1, σ, H1⟩ F2 e2 σ H := fun F2 e2 a t => .of a t
  cases wv with
  | d z => exact ExS.ret (a := Fl.next) h (R.setd r) ((S F e s9 t9).setd hi)
  | new c =>
    obtain ⟨ad, ev, h1, h2, h3⟩ := r
    subst ev
    exact ExS.ret (a := Fl.next) h (R.seto h1 h2) ((S F e s9 t9).seto hi h3)
  | at_ j =>
    have h' : ExS G tp br ⟨F1, e1, σ, H1⟩ (bnd (MV.frz (.at_ j)) fun x => bnd (setSl i (some (.d x))) fun _ => ret .next) e (KD G br D H0) := by
      have e0 : (bnd (sto (.at_ j)) fun s => bnd (setSl i (some s)) fun _ => ret Fl.next) e = (bnd (MV.frz (.at_ j)) fun x => bnd (setSl i (some (.d x))) fun _ => ret Fl.next) e := by
        unfold sto bnd
        dsimp only
        cases MV.frz (.at_ j) e <;> rfl
      unfold ExS at h ⊢
      rw [e0] at h
      exact h
    obtain ⟨F2, e2, d, R2, a2, t2, i2, h3⟩ := h'.frz R s9 t9 r
    exact ExS.ret (a := Fl.next) h3 (R2.setd i2) ((S F2 e2 a2 t2).setd hi)
theorem asg_imp {D : Ends} (hi : i ∉ br) (h : RS G tp br (asgM i m) D σ H) : tAsg (RT G W0 m) (gName i) D σ H := by
  obtain ⟨H0, σ0, F, e, R, B, h⟩ := h
  exact RT.mono (ExS.rt R h) fun v H1 ⟨F1, e1, w, R1, s1, t1, r1, h1⟩ => sto_core hi R1 s1 t1 r1 h1
theorem ss_asg (hN : X.N.Nodup) (hn : X.N[i]? = some n) (hl : Loc X.env.scope n) (hf : X.fn n = true ∨ X.env.scope.names.lookup n = some .local) (hi : i ∉ br) (hx : PE X x (RT G W0 m)) (hs : swapB x = true) : PS X (.Assign [.Name n p] x pos) (RS G tp br (asgM i m)) :=
  PS.imp (ps_set hN hn hl hx (swap_of hs) hf) fun D σ H h => asg_imp hi h

/-! ### tuple targets -/
theorem setAll_core {es : List Expr} {A : SAn} : ∀ {is : List Nat} {ds : List D} {vs : List V} {F : Fz} {e : Env} {σ : L2.St} {H : Hp} {f : Unit → M β} {K : KS β} {Q : L2.St → Hp → Prop}, (∀ i ∈ is, i ∉ br) → Rel G F e σ H → StepS tp br A F e σ H → IsL G F ds vs → ExS G tp br A (bnd (setAll is ds) f) e K →
    (∀ e' σ', Rel G F e' σ' H → StepS tp br A F e' σ' H → ExS G tp br A (f ()) e' K → Q σ' H) → (is.foldr (fun i g => gCons (gName i) g) gNil) vs σ H Q
  | [], [], vs, F, e, σ, H, f, K, Q, hb, R, S, hv, h, k => by
    rw [IsL] at hv
    exact ⟨hv, k e σ R S h⟩
  | [], _ :: _, vs, F, e, σ, H, f, K, Q, hb, R, S, hv, h, k => h.elim
  | _ :: _, [], vs, F, e, σ, H, f, K, Q, hb, R, S, hv, h, k => h.elim
  | i :: is, d :: ds, vs, F, e, σ, H, f, K, Q, hb, R, S, hv, h, k => by
    rw [IsL] at hv
    obtain ⟨v, r, rfl, h1, h2⟩ := hv
    refine ⟨v, r, rfl, ?_⟩
    have h' : ExS G tp br A (bnd (setAll is ds) f) (e.set i (some (.d d))) K := by
      have h0 : ExS G tp br A (bnd (bnd (setSl i (some (.d d))) fun _ => setAll is ds) f) e K := h
      rw [bnd_assoc] at h0
      exact h0
    exact setAll_core (es := es) (fun j hj => hb j (List.Mem.tail _ hj)) (R.setd h1) (S.setd (hb i (List.Mem.head _))) h2 h' k
/-- names to slots -/
inductive Tgs (X : Cx) : List Expr → List Nat → Prop where
  | nil : Tgs X [] []
  | cons {n : Str} {p : Pos} {i : Nat} {es : List Expr} {is : List Nat} (hn : X.N[i]? = some n) (hl : Loc X.env.scope n) (hf : X.fn n = true ∨ X.env.scope.names.lookup n = some .local) (t : Tgs X es is) : Tgs X (.Name n p :: es) (i :: is)
theorem Tgs.pgs (hN : X.N.Nodup) : ∀ {es : List Expr} {is : List Nat}, Tgs X es is → PGs X es (is.foldr (fun i g => gCons (gName i) g) gNil) ∧ (assignEach es X.env).length = is.length ∧ (assignEach es X.env).findIdx? (·.1) = none
  | _, _, .nil => ⟨pgs_nil, rfl, rfl⟩
  | _, _, .cons hn hl hf t => by
    obtain ⟨h1, h2, h3⟩ := Tgs.pgs hN t
    refine ⟨pgs_cons (pg_name hN hn hl hf) h1 rfl, ?_, ?_⟩
    · show (assignEach _ X.env).length + 1 = _
      rw [h2]; rfl
    · show List.findIdx? (·.1) ((false, _) :: assignEach _ X.env) = none
      rw [List.findIdx?_cons, h3]; rfl
theorem pg_tgs {is : List Nat} {k : Nat} (hN : X.N.Nodup) (hc : X.calm = true) (t : Tgs X es is) : PG X (.Tuple es k pos) (gTup X.K is.length (is.foldr (fun i g => gCons (gName i) g) gNil)) := by
  obtain ⟨h1, h2, h3⟩ := t.pgs hN
  exact pg_tup hc h1 h2 h3
/-- a target list is stored -/
theorem bindT_core {A : SAn} {is : List Nat} {d : D} {f : Unit → M β} {K : KS β} {Q : L2.St → Hp → Prop} (hG : G.K = X.K) (hb : ∀ i ∈ is, i ∉ br) (R : Rel G F e σ H) (S : StepS tp br A F e σ H) (hv : Is G F d v) (h : ExS G tp br A (bnd (bindT is true d) f) e K)
    (k : ∀ e' σ', Rel G F e' σ' H → StepS tp br A F e' σ' H → ExS G tp br A (f ()) e' K → Q σ' H) : gTup X.K is.length (is.foldr (fun i g => gCons (gName i) g) gNil) v σ H Q := by
  cases d with
  | tup ds =>
    rw [Is] at hv
    obtain ⟨ad, vs, ev, h1, h2⟩ := hv
    have h0 : ExS G tp br A (bnd (setAll is ds) f) e K := h
    have hl : ds.length = is.length := by
      clear h1 h2 k R S hb ev h
      induction is generalizing ds e with
      | nil => cases ds with
        | nil => rfl
        | cons _ _ => exact h0.elim
      | cons i is ih => cases ds with
        | nil => exact h0.elim
        | cons d ds =>
          have h1 : ExS G tp br A (bnd (bnd (setSl i (some (.d d))) fun _ => setAll is ds) f) e K := h0
          rw [bnd_assoc] at h1
          rw [List.length_cons, List.length_cons, ih (e := e.set i (some (.d d))) ds h1]
    refine ⟨ad, vs, ev, hG ▸ SqT.le R.sub h1, by rw [h2.length, hl], ?_⟩
    exact setAll_core (es := []) hb R S h2 h0 k
  | _ => exact h.elim
def asgTM (is : List Nat) (m : M W) : M Fl := bnd m fun w => bnd (frz w) fun x => bnd (bindT is true x) fun _ => ret .next
def dispB : Expr → Bool
  | .Tuple _ _ _ => false
  | _ => true
theorem swaps_of (h : dispB x = true) {o : Expr} {env : PySem.Env} : swappedStores [o] x env = pure none := by
  unfold swappedStores
  cases x <;> first | (exact absurd h Bool.false_ne_true) | skip
  all_goals (cases o <;> rfl)
theorem ss_asgT {is : List Nat} {k : Nat} (hG : G.K = X.K) (hN : X.N.Nodup) (hc : X.calm = true) (ht : Tgs X es is) (hb : ∀ i ∈ is, i ∉ br) (hx : PE X x (RT G W0 m)) (hs : swapB x = true) (hd : dispB x = true) : PS X (.Assign [.Tuple es k p] x pos) (RS G tp br (asgTM is m)) := by
  refine PS.imp (ps_asg hx (pg_tgs hN hc ht) (show swapsWith x (some (.Tuple es k p)) pos.line X.env = pure false from swap_of hs) (swaps_of hd) rfl) fun D σ H ⟨H0, σ0, F, e, R, B, h⟩ => ?_
  refine RT.mono (ExS.rt R h) fun v H1 ⟨F1, e1, w, R1, s1, t1, r1, h1⟩ => ?_
  obtain ⟨F2, e2, d, R2, a2, t2, i2, h3⟩ := h1.frz (A9 := ⟨F, e, H⟩) R1 s1 t1 r1
  exact bindT_core hG hb R2 (.of a2 t2) i2 h3 fun e' σ' R' S' h4 => ExS.ret h4 R' S'
end
end MV
/-! MVStm3: stores into lists and objects, loops. -/
namespace MV
open PySem PySem.Spec L2

section
variable {G : Gx} {F F' F1 F2 : Fz} {e e' e1 e2 : Env} {σ σ' σ1 σ2 : L2.St} {H H' H0 H1 H2 : Hp} {s t : Sl} {v w : V} {X : Cx} {m ma mb mc melt mk : M W} {a b c x tg : Expr} {pos p p2 : Pos} {es : List Expr} {u : V} {P : Phi} {f np k i fuel : Nat} {I : Info} {tp : Bool} {br : List Nat} {σ0 : L2.St}
  {α β : Type} {A : SAn} {n : Str} {apos cpos : Pos}

theorem ExS.own {f : List D → M β} {K : KS β} (h : ExS G tp br A (MV.bnd (ownLst i) f) e K) : ∃ xs, e.get i = some (.own (.lst xs)) ∧ ExS G tp br A (f xs) e K := by
  unfold ExS MV.bnd ownLst at h
  cases q : e.get i with
  | none => rw [q] at h; exact h.elim
  | some sl =>
    rw [q] at h
    cases sl with
    | d _ => exact h.elim
    | own c =>
      cases c with
      | obj _ _ _ => exact h.elim
      | lst xs => exact ⟨xs, rfl, h⟩
/-- an own list is written: the end -/
theorem wr_core {D : Ends} {xs ys : List MV.D} {ws : List V} {ad : Addr} (R : Rel G F e σ H) (S : StepS tp br A F e σ H) (q : e.get i = some (.own (.lst xs))) (hs : σ[i]? = some (some (.ref ad))) (hf : F.h ad = none) (hi : IsL G F ys ws)
    (h : ExS G tp br A (bnd (setSl i (some (.own (.lst ys)))) fun _ => ret .next) e (KD G br D H0)) : D.nx σ (upd H ad (.lst ws)) := by
  obtain ⟨R1, S1⟩ := R.upd_own (T := if tp = true then 0 else A.e.t) (c' := .lst ys) (o := .lst ws) q hs ⟨hf, ws, upd_same, hi⟩
  exact ExS.ret (a := Fl.next) h R1 ⟨S.st.trans S1, S.tm, S.br⟩
def appM (i : Nat) (m : M W) : M Fl := bnd (ownLst i) fun _ => bnd m fun w => bnd (frz w) fun x => bnd (ownLst i) fun xs => if xs.length < 16777216 then bnd (setSl i (some (.own (.lst (xs ++ [x]))))) fun _ => ret .next else bad
theorem tyV_own {xs : List MV.D} (R : Rel G F e σ H) (q : e.get i = some (.own (.lst xs))) : ∃ ad vs, σ[i]? = some (some (.ref ad)) ∧ tyV X.K "list" (.ref ad) H ∧ H ad = some (.lst vs) ∧ IsL G F xs vs ∧ F.h ad = none := by
  obtain ⟨ad, k1, k2, vs, k3, k4⟩ := R.own i _ q
  exact ⟨ad, vs, k1, .inl ⟨rfl, vs, SqL.of k3⟩, k3, k4, k2⟩
theorem ss_append (hN : X.N[i]? = some n) (hv : Vis X.env.scope n) (hd : (n == ("__debug__" : Str)) = false) (hcd : (n == ("__classdict__" : Str)) = false) (hx : PE X x (RT G W0 m)) (hs : notStar x = true) (hline : (apos.endLine == cpos.line) = true) :
    PS X (.Expr (.Call (.Attribute (.Name n p) "append" apos) [x] [] cpos) pos) (RS G tp br (appM i m)) := by
  refine PS.imp (ps_expr (pe_bm PySem.F.plainAttrs_list PySem.F.slot_list_append PySem.F.type_list_append mt_append (pe_var hN hv hd hcd) (pa_cons hx pa_nil (starEach_of (notStar_of hs))) (abase_of rfl) (by rw [starEach_of (notStar_of hs)]; rfl) hline (starEach_of (notStar_of hs)) rfl) rfl) fun D σ H ⟨H0, σ0, F, e, R, B, h⟩ => ?_
  obtain ⟨xs0, q0, h⟩ := h.own
  obtain ⟨ad, vs0, k1, k2, k3, k4, k5⟩ := tyV_own (X := X) R q0
  refine ⟨_, k1, k2, RT.mono (ExS.rt R h) fun v H1 ⟨F1, e1, w, R1, s1, t1, r1, h1⟩ => ?_⟩
  obtain ⟨F2, e2, d, R2, a2, t2, i2, h3⟩ := h1.frz (A9 := ⟨F, e, H⟩) R1 s1 t1 r1
  obtain ⟨xs, q, h4⟩ := h3.own
  obtain ⟨ad', vs, j1, _, j3, j4, j5⟩ := tyV_own (X := X) R2 q
  rw [k1] at j1
  cases j1
  by_cases hl : xs.length < 16777216
  · rw [if_pos hl] at h4
    exact ⟨ad, vs, v, rfl, rfl, j3, by rw [j4.length, sizeLine_eq]; exact hl, wr_core R2 (.of a2 t2) q k1 j5 (j4.app (IsL.cons i2 IsL.nil)) h4⟩
  · rw [if_neg hl] at h4; exact h4.elim
def insM (i : Nat) (mk m : M W) : M Fl := bnd (ownLst i) fun _ => bnd mk fun kw => bnd (rd kw) fun ks => bnd (optM (intOf ks)) fun k => bnd m fun w => bnd (frz w) fun x => bnd (ownLst i) fun xs =>
      if xs.length < 16777216 ∧ 0 ≤ k ∧ k < 4611686018427387904 then bnd (setSl i (some (.own (.lst (xs.take k.toNat ++ [x] ++ xs.drop k.toNat))))) fun _ => ret .next else bad
theorem ss_insert (hN : X.N[i]? = some n) (hv : Vis X.env.scope n) (hd : (n == ("__debug__" : Str)) = false) (hcd : (n == ("__classdict__" : Str)) = false) (hk : PE X a (RT G W0 mk)) (hx : PE X x (RT G W0 m)) (hsa : notStar a = true) (hs : notStar x = true) (hline : (apos.endLine == cpos.line) = true) :
    PS X (.Expr (.Call (.Attribute (.Name n p) "insert" apos) [a, x] [] cpos) pos) (RS G tp br (insM i mk m)) := by
  refine PS.imp (ps_expr (pe_bm PySem.F.plainAttrs_list PySem.F.slot_list_insert PySem.F.type_list_insert mt_insert (pe_var hN hv hd hcd) (pa_cons hk (pa_cons hx pa_nil (starEach_of (notStar_of hs))) (starEach_of (notStar_of hsa))) (abase_of rfl)
    (by rw [starEach_of (notStar_of hsa), starEach_of (notStar_of hs)]; rfl) hline (starEach_of (notStar_of hsa)) (by rw [starEach_of (notStar_of hs)]; rfl)) rfl) fun D σ H ⟨H0, σ0, F, e, R, B, h⟩ => ?_
  obtain ⟨xs0, q0, h⟩ := h.own
  obtain ⟨ad, vs0, k1, k2, k3, k4, k5⟩ := tyV_own (X := X) R q0
  refine ⟨_, k1, k2, RT.mono (ExS.rt R h) fun kv H1 ⟨F1, e1, w, R1, s1, t1, r1, h1⟩ => ?_⟩
  obtain ⟨sk, hk, h1⟩ := h1.rd R1 r1
  obtain ⟨kk, hkk, h1⟩ := h1.opt
  have ek := intOf_v hk hkk
  refine RT.mono (ExS.rt R1 h1) fun v H2 ⟨F2, e2, w2, R2, s2, t2, r2, h2⟩ => ?_
  obtain ⟨F3, e3, d, R3, a3, t3, i3, h3⟩ := h2.frz (A9 := ⟨F1, e1, H1⟩) R2 s2 t2 r2
  obtain ⟨xs, q, h4⟩ := h3.own
  obtain ⟨ad', vs, j1, _, j3, j4, j5⟩ := tyV_own (X := X) R3 q
  rw [k1] at j1
  cases j1
  have S3 : StepS tp br ⟨F, e, σ, H⟩ F3 e3 σ H2 := StepS.trans (.of s1 t1) (.of a3 t3)
  by_cases hl : xs.length < 16777216 ∧ 0 ≤ kk ∧ kk < 4611686018427387904
  · rw [if_pos hl] at h4
    refine ⟨ad, vs, kk, v, rfl, by rw [ek], j3, by rw [j4.length, sizeLine_eq]; exact hl.1, hl.2.1, by have e0 : (2 : Int) ^ 63 = 9223372036854775808 := (by decide); rw [e0]; omega, ?_⟩
    exact wr_core R3 S3 q k1 j5 (((j4.take _).app (IsL.cons i3 IsL.nil)).app (j4.drop _)) h4
  · rw [if_neg hl] at h4; exact h4.elim
def setM (i : Nat) (mk m : M W) : M Fl := bnd m fun w => bnd (frz w) fun x => bnd (ownLst i) fun _ => bnd mk fun kw => bnd (rd kw) fun ks => bnd (optM (intOf ks)) fun k => bnd (ownLst i) fun xs =>
      bnd (optM (ix xs.length k)) fun j => bnd (setSl i (some (.own (.lst (xs.set j x))))) fun _ => ret .next
theorem swap_sub {o i : Expr} {l : Nat} {env : PySem.Env} : swapsWith x (some (.Subscript o i p)) l env = pure false := by
  cases x <;> rfl
theorem swaps_sub {o i : Expr} {env : PySem.Env} : swappedStores [.Subscript o i p] x env = pure none := by
  cases x <;> rfl
theorem ss_setIx (hN : X.N[i]? = some n) (hv : Vis X.env.scope n) (hd : (n == ("__debug__" : Str)) = false) (hcd : (n == ("__classdict__" : Str)) = false) (hk : PE X a (RT G W0 mk)) (hx : PE X x (RT G W0 m)) (hp : plainI a = true) :
    PS X (.Assign [.Subscript (.Name n p) a p2] x pos) (RS G tp br (setM i mk m)) := by
  refine PS.imp (ps_asg hx (pg_sub (pe_var hN hv hd hcd) hk set_list (by intro v; cases a <;> first | (exact absurd hp Bool.false_ne_true) | rfl)) (show swapsWith x (some (.Subscript (.Name n p) a p2)) pos.line X.env = pure false from swap_sub) swaps_sub rfl) fun D σ H ⟨H0, σ0, F, e, R, B, h⟩ => ?_
  refine RT.mono (ExS.rt R h) fun v H1 ⟨F1, e1, w, R1, s1, t1, r1, h1⟩ => ?_
  obtain ⟨F2, e2, d, R2, a2, t2, i2, h3⟩ := h1.frz (A9 := ⟨F, e, H⟩) R1 s1 t1 r1
  obtain ⟨xs0, q0, h⟩ := h3.own
  obtain ⟨ad, vs0, k1, k2, k3, k4, k5⟩ := tyV_own (X := X) R2 q0
  refine ⟨_, k1, RT.mono (ExS.rt R2 h) fun kv H3 ⟨F3, e3, w3, R3, s3, t3, r3, h4⟩ => ?_⟩
  obtain ⟨sk, hk, h4⟩ := h4.rd R3 r3
  obtain ⟨kk, hkk, h4⟩ := h4.opt
  have ek := intOf_v hk hkk
  obtain ⟨xs, q, h4⟩ := h4.own
  obtain ⟨j, hj, h4⟩ := h4.opt
  obtain ⟨ad', vs, j1, _, j3, j4, j5⟩ := tyV_own (X := X) R3 q
  rw [k1] at j1
  cases j1
  have S3 : StepS tp br ⟨F, e, σ, H⟩ F3 e3 σ H3 := StepS.trans (.of a2 t2) (.of s3 t3)
  exact ⟨ad, vs, kk, j, rfl, ek, j3, by rw [j4.length]; exact hj, wr_core R3 S3 q k1 j5 (j4.set j (i2.mono (R2.fle s3))) h4⟩

/-! ### o.f = .. -/
theorem put_of {f : Nat} {y : D} (inj : ∀ i j, G.fname i = G.fname j → i = j) (hy : Is G F y v) : ∀ {ns : List Nat} {xs : List D} {vs : List V}, ns.length = xs.length → IsL G F xs vs →
    ∃ vs', L2.putF (G.fname f) v ((ns.map G.fname).zip vs) = (((putF f y ns xs).1).map G.fname).zip vs' ∧ IsL G F (putF f y ns xs).2 vs' ∧ (putF f y ns xs).1.length = (putF f y ns xs).2.length
  | [], [], vs, _, h => by
    rw [IsL] at h
    subst h
    exact ⟨[v], rfl, IsL.cons hy IsL.nil, rfl⟩
  | [], _ :: _, _, hl, _ => by simp at hl
  | _ :: _, [], _, hl, _ => by simp at hl
  | n :: ns, x :: xs, vs, hl, h => by
    rw [IsL] at h
    obtain ⟨z, r, rfl, h1, h2⟩ := h
    by_cases c : n = f
    · subst c
      refine ⟨v :: r, ?_, ?_, ?_⟩
      · rw [putF, if_pos rfl, List.map_cons, List.zip_cons_cons, L2.putF, if_pos rfl]; rfl
      · rw [putF, if_pos rfl]; exact IsL.cons hy h2
      · rw [putF, if_pos rfl]; simpa using hl
    · obtain ⟨vs', k1, k2, k3⟩ := put_of (f := f) (y := y) inj hy (ns := ns) (xs := xs) (by simpa using hl) h2
      have cn : ¬ G.fname n = G.fname f := fun w => c (inj _ _ w)
      refine ⟨z :: vs', ?_, ?_, ?_⟩
      · rw [putF, if_neg c, List.map_cons, List.zip_cons_cons, L2.putF, if_neg cn, k1]; rfl
      · rw [putF, if_neg c]; exact IsL.cons h1 k2
      · rw [putF, if_neg c]; simpa using k3
def fldM (i f : Nat) (m : M W) : M Fl := bnd m fun w => bnd (frz w) fun x => fun en => match en.get i with
      | some (.own (.obj c ns xs)) => if ns.length < 1000 then .ok .next (en.set i (some (.own (.obj c (putF f x ns xs).1 (putF f x ns xs).2)))) else .stuck
      | _ => .stuck
theorem ss_fld {fn : Str} (AF : AttrF G) (FF : FldF G f) (hfn : G.fname f = fn) (hG : G.K = X.K) (hN : X.N[i]? = some n) (hv : Vis X.env.scope n) (hd : (n == ("__debug__" : Str)) = false) (hcd : (n == ("__classdict__" : Str)) = false) (hx : PE X x (RT G W0 m)) (hs : swapB x = true) :
    PS X (.Assign [.Attribute (.Name n p) fn p2] x pos) (RS G tp br (fldM i f m)) := by
  subst hfn
  refine PS.imp (ps_fld (pe_var hN hv hd hcd) hx (swap_of hs)) fun D σ H ⟨H0, σ0, F, e, R, B, h⟩ => ?_
  refine RT.mono (ExS.rt R h) fun v H1 ⟨F1, e1, w, R1, s1, t1, r1, h1⟩ => ?_
  obtain ⟨F2, e2, d, R2, a2, t2, i2, h3⟩ := h1.frz (A9 := ⟨F, e, H⟩) R1 s1 t1 r1
  unfold ExS at h3
  dsimp only at h3
  cases q : e2.get i with
  | none => rw [q] at h3; exact h3.elim
  | some sl =>
    rw [q] at h3
    cases sl with
    | d _ => exact h3.elim
    | own c =>
      cases c with
      | lst _ => exact h3.elim
      | obj c ns xs =>
        dsimp only at h3
        obtain ⟨ad, k1, k2, dx, vs, k3, ⟨k4, kc⟩, k5⟩ := R2.own i _ q
        by_cases hl : ns.length < 1000
        · rw [if_pos hl] at h3
          obtain ⟨vs', p1, p2, p3⟩ := put_of (f := f) AF.inj i2 k4 k5
          obtain ⟨R3, S3⟩ := R2.upd_own (T := if tp = true then 0 else e.t) (c' := .obj c (putF f d ns xs).1 (putF f d ns xs).2) (o := .ins (G.ca c) dx ((((putF f d ns xs).1).map G.fname).zip vs')) q k1 ⟨k2, dx, vs', upd_same, ⟨p3, kc⟩, p2⟩
          have S2 : StepS tp br ⟨F, e, σ, H⟩ F2 e2 σ H1 := .of a2 t2
          refine ⟨_, k1, ad, _, dx, _, rfl, k3, hG ▸ AF.cl c kc, hG ▸ FF c kc, ?_, ?_⟩
          · rw [List.length_zip, List.length_map]; omega
          · rw [p1]
            exact h3 F2 σ _ R3 ⟨S2.st.trans S3, S2.tm, S2.br⟩
        · rw [if_neg hl] at h3; exact h3.elim

/-! ### loops -/
theorem StepS.fle (R : Rel G F e σ H) (S : StepS false br ⟨F, e, σ, H⟩ F' e' σ' H') : Fle F F' :=
  ⟨fun a o h => (S.st.le a o h (R.ept a o h)).1, fun a o h => (S.st.le a o h (R.ept a o h)).2⟩
/-- what a target does with an item -/
def TgC (G : Gx) (br : List Nat) (bd : D → M Unit) (g : TG) : Prop := ∀ {A : SAn} {F : Fz} {e : Env} {σ : L2.St} {H : Hp} {d : D} {v : V} {f : Unit → M Fl} {K : KS Fl} {Q : L2.St → Hp → Prop}, Rel G F e σ H → StepS false br A F e σ H → Is G F d v → ExS G false br A (bnd (bd d) f) e K →
    (∀ e' σ', Rel G F e' σ' H → StepS false br A F e' σ' H → ExS G false br A (f ()) e' K → Q σ' H) → g v σ H Q
theorem tgC_name (hi : i ∉ br) : TgC G br (bindT [i] false) (gName i) := fun {A F e σ H d v f K Q} R S hv h k => k (e.set i (some (.d d))) _ (R.setd hv) (S.setd hi) h
theorem tgC_tup {is : List Nat} (hG : G.K = X.K) (hb : ∀ i ∈ is, i ∉ br) : TgC G br (bindT is true) (gTup X.K is.length (is.foldr (fun i g => gCons (gName i) g) gNil)) := fun R S hv h k => bindT_core hG hb R S hv h k
def forM (m0 : M (List D)) (bd : D → M Unit) (body : M Fl) : M Fl := bnd m0 fun xs => forL bd body xs
def setE : Expr → Bool
  | .Set _ _ _ => false
  | _ => true
theorem folded_of (h : setE x = true) {env : PySem.Env} (z : Value) : foldedSetIterable x env z = pure z := by
  cases x <;> first | rfl | exact absurd h Bool.false_ne_true
theorem ss_for {m0 : M (List D)} {bd : D → M Unit} {g : TG} {body : List Stmt} {mb : M Fl} (hp : PassesOwn (model X.prog X.w) X.A X.env X.xe) (hc : X.calm = true) (hi : PI X tg x (RI G m0)) (hg : PG X tg g) (hT : TgC G br bd g) (hb : PSs X body (RS G false br mb)) (hs : setE x = true) :
    PS X (.For tg x body [] pos) (RS G false br (forM m0 bd mb)) := by
  refine PS.imp (ps_for hp hc hi hg hb (folded_of hs)) fun D σ H ⟨H0, σ0, F, e, R, B, h⟩ => ?_
  refine ⟨F, e, R, (ExS.ex (A' := ⟨F, e, H⟩) h).mono fun xs F1 e1 H1 R1 s1 t1 h1 J hJ => ?_⟩
  have S1 : StepS false br ⟨F, e, σ, H⟩ F1 e1 σ H1 := .of s1 t1
  refine ⟨fun i m σ' H' => m = xs.length - i ∧ i ≤ xs.length ∧ ∃ F' e', Rel G F' e' σ' H' ∧ StepS false br ⟨F, e, σ, H⟩ F' e' σ' H' ∧ Fle F1 F' ∧ ExS G false br ⟨F, e, σ, H⟩ (forL bd mb (xs.drop i)) e' (KD G br D H0), ⟨_, rfl, Nat.zero_le _, F1, e1, R1, S1, .refl F1, h1⟩, ?_⟩
  rintro i m σ' H' ⟨rfl, hi, F', e', R', S', le', h'⟩
  have hJ' := hJ F' H' R'.sub le' i
  by_cases hlt : i < xs.length
  · have hx : xs[i]? = some xs[i] := List.getElem?_eq_getElem hlt
    obtain ⟨go, yl⟩ := hJ'.1 _ hx
    refine .inr ⟨go, fun σ2 H2 => i + 1 ≤ xs.length ∧ ∃ F' e', Rel G F' e' σ2 H2 ∧ StepS false br ⟨F, e, σ, H⟩ F' e' σ2 H2 ∧ Fle F1 F' ∧ ExS G false br ⟨F, e, σ, H⟩ (forL bd mb (xs.drop (i + 1))) e' (KD G br D H0), fun σ2 H2 w => ⟨xs.length - (i + 1), by omega, rfl, w⟩, fun v H2 hy => ?_⟩
    obtain ⟨eH, iv⟩ := yl v H2 hy
    subst eH
    have hdrop : xs.drop i = xs[i] :: xs.drop (i + 1) := List.drop_eq_getElem_cons hlt
    rw [hdrop] at h'
    refine hT R' S' iv h' fun e2 σ2 R2 S2 h2 => ?_
    refine ⟨H0, σ0, F', e2, R2, B.step S2, ((ExS.bnd h2).later S2).mono fun fl F3 e3 σ3 H3 R3 S3 h3 => ?_⟩
    have S4 := S2.trans S3
    cases fl with
    | next => exact ⟨hlt, F3, e3, R3, S4, le'.trans (S3.fle R2), h3⟩
    | cont => exact ⟨hlt, F3, e3, R3, S4, le'.trans (S3.fle R2), h3⟩
    | brk => exact ExS.ret (a := Fl.next) h3 R3 S4
    | ret sl => exact ExS.ret (a := Fl.ret sl) h3 R3 S4
  · have ei : i = xs.length := by omega
    subst ei
    rw [List.drop_length] at h'
    exact .inl ⟨hJ'.2 (Nat.le_refl _), ExS.ret (a := Fl.next) h' R' S'⟩
theorem ss_while {body : List Stmt} {mb : M Fl} {n : Nat} (hp : PassesOwn (model X.prog X.w) X.A X.env X.xe) (hc : PT X c (RTT G W0 mc)) (hb : PSs X body (RS G false br mb)) : PS X (.While c body [] pos) (RS G false br (whileL (bnd mc MV.tr) mb n)) := by
  refine PS.imp (ps_while hp hc hb) fun D σ H ⟨H0, σ0, F, e, R, B, h⟩ => ?_
  refine ⟨fun m σ' H' => ∃ F' e', Rel G F' e' σ' H' ∧ StepS false br ⟨F, e, σ, H⟩ F' e' σ' H' ∧ ExS G false br ⟨F, e, σ, H⟩ (whileL (bnd mc MV.tr) mb m) e' (KD G br D H0), ⟨n, F, e, R, .refl, h⟩, ?_⟩
  rintro m σ' H' ⟨F', e', R', S', h'⟩
  cases m with
  | zero =>
    exact (show False from h').elim
  | succ m =>
    rw [whileL] at h'
    refine RTT.mono (ExS.rtt R' h') fun k H1 ⟨F1, e1, R1, s1, t1, h1⟩ => ?_
    have S1 : StepS false br ⟨F, e, σ, H⟩ F1 e1 σ' H1 := S'.trans (.of s1 t1)
    cases k with
    | true =>
      rw [if_pos rfl] at h1 ⊢
      refine ⟨fun σ2 H2 => ∃ F' e', Rel G F' e' σ2 H2 ∧ StepS false br ⟨F, e, σ, H⟩ F' e' σ2 H2 ∧ ExS G false br ⟨F, e, σ, H⟩ (whileL (bnd mc MV.tr) mb m) e' (KD G br D H0), fun σ2 H2 w => ⟨m, Nat.lt_succ_self m, w⟩, ?_⟩
      refine ⟨H0, σ0, F1, e1, R1, B.step S1, ((ExS.bnd h1).later S1).mono fun fl F3 e3 σ3 H3 R3 S3 h3 => ?_⟩
      have S4 := S1.trans S3
      cases fl with
      | next => exact ⟨F3, e3, R3, S4, h3⟩
      | cont => exact ⟨F3, e3, R3, S4, h3⟩
      | brk => exact ExS.ret (a := Fl.next) h3 R3 S4
      | ret sl => exact ExS.ret (a := Fl.ret sl) h3 R3 S4
    | false =>
      rw [if_neg Bool.false_ne_true] at h1 ⊢
      exact ExS.ret (a := Fl.next) h1 R1 S1
end
end MV
/-! MVChk: the mini text is checked against the program's text. -/
namespace MV
open PySem PySem.Spec L2

/-- what the text's names are -/
structure Tab where
  fn : List (Str × Nat × Nat)
  mks : List (Str × Nat × Nat)
  gl : List (Str × Nat)
  fld : List (Str × Nat)
  prop : List (Str × Nat)
  cc : List (Str × Nat × Str × Nat)
  ty : List (Str × Ty)

def visB (sc : Scope) (n : Str) : Bool := match sc.names.lookup n with
  | some .local => true | some .cell => true | some .free => true
  | _ => false
def locB (sc : Scope) (n : Str) : Bool := match sc.names.lookup n with
  | some .local => true | some .cell => true
  | _ => false
def lclB (sc : Scope) (n : Str) : Bool := match sc.names.lookup n with
  | some .local => true
  | _ => false
def glB (sc : Scope) (n : Str) : Bool := match sc.names.lookup n with
  | some .globalImplicit => true
  | _ => false
def nmB (n : Str) : Bool := !(n == ("__debug__" : Str)) && !(n == ("__classdict__" : Str))
def primN : Prim → Str
  | .len => "len" | .list => "list" | .tuple => "tuple" | .sorted => "sorted" | .int => "int" | .max => "max" | .max2 => "max"
/-- the name of a slot -/
def slB (N : List Str) (sc : Scope) (i : Nat) : Expr → Bool
  | .Name n _ => decide (N[i]? = some n) && visB sc n && nmB n
  | _ => false
def tyB (T : Tab) (sc : Scope) (t : Ty) : Expr → Bool
  | .Name n _ => T.ty.contains (n, t) && glB sc n && nmB n
  | _ => false
def tysB (T : Tab) (sc : Scope) : List Ty → List Expr → Bool
  | [], [] => true
  | t :: ts, x :: xs => tyB T sc t x && tysB T sc ts xs
  | _, _ => false
def isZ : E → Bool
  | .cst (.int 0) => true
  | _ => false
def cmpT : Expr → Bool
  | .Compare _ _ _ _ => true
  | _ => false
def tstB (md : Nat) (x : Expr) : Bool := !decide (md = 1) || plainT x
def lineB (a b : Pos) : Bool := a.endLine == b.line

section
variable (T : Tab) (N : List Str)
mutual
def okE (md : Nat) (top : Bool) (sc : Scope) : E → Expr → Bool
  | .var i, x => tstB md x && slB N sc i x
  | .cst d, x => tstB md x && litOk d x
  | .glob g, x => tstB md x && match x with
    | .Name n _ => T.gl.contains (n, g) && glB sc n && nmB n
    | _ => false
  | .ccon c k, x => tstB md x && match x with
    | .Attribute (.Name cn _) an _ => T.cc.contains (cn, c, an, k) && glB sc cn && nmB cn
    | _ => false
  | .tup es, x => tstB md x && match x with
    | .Tuple xs _ _ => okEs top sc es xs && decide (xs.length ≤ 16777216)
    | _ => false
  | .lst es, x => tstB md x && match x with
    | .List xs _ => okEs top sc es xs && decide (xs.length ≤ 16777216)
    | _ => false
  | .bin o a b, x => tstB md x && match x with
    | .BinOp xa po xb _ => opB o po && okE 0 top sc a xa && okE 0 top sc b xb
    | _ => false
  | .cmp o a b, x => match x with
    | .Compare xa [po] [xb] _ => copB o po && okE 0 top sc a xa && okE 0 top sc b xb && !behindInMarks po xb
    | _ => false
  | .chain o1 o2 a b c, x => match x with
    | .Compare xa [p1, p2] [xb, xc] _ => copB o1 p1 && copB o2 p2 && okE 0 top sc a xa && okE 0 top sc b xb && okE 0 top sc c xc && !lastMarks [p1, p2] [xb, xc]
    | _ => false
  | .isNone a, x => match x with
    | .Compare xa [.Is] [.Constant .none _ _] _ => okE 0 top sc a xa
    | _ => false
  | .notNone a, x => match x with
    | .Compare xa [.IsNot] [.Constant .none _ _] _ => okE 0 top sc a xa
    | _ => false
  | .not a, x => match x with
    | .UnaryOp .Not xa _ => okE (md % 2) top sc a xa
    | _ => false
  | .and a b, x => match x with
    | .BoolOp .And [xa, xb] _ => okE (md % 2) top sc a xa && okE (md % 2) top sc b xb
    | .BoolOp .And (xa :: xb :: xc :: xs) p => okE (md % 2) top sc a xa && okE (md % 2) top sc b (.BoolOp .And (xb :: xc :: xs) p)
    | _ => false
  | .or a b, x => match x with
    | .BoolOp .Or [xa, xb] _ => okE (md % 2) top sc a xa && okE (md % 2) top sc b xb
    | .BoolOp .Or (xa :: xb :: xc :: xs) p => okE (md % 2) top sc a xa && okE (md % 2) top sc b (.BoolOp .Or (xb :: xc :: xs) p)
    | _ => false
  | .ite c a b, x => tstB md x && match x with
    | .IfExp xc xa xb _ => okE 1 top sc c xc && okE 0 top sc a xa && okE 0 top sc b xb
    | _ => false
  | .idx a i, x => tstB md x && match x with
    | .Subscript xa xi _ => okE 0 top sc a xa && okE 0 top sc i xi && plainI xi
    | _ => false
  | .slc a lo hi, x => tstB md x && match x with
    | .Subscript xa (.Slice xl xh none _) _ => okE 0 top sc a xa && okO top sc lo xl && okO top sc hi xh
    | _ => false
  | .rev a, x => tstB md x && match x with
    | .Subscript xa (.Slice none none (some (.UnaryOp .USub (.Constant (.int 1) _ _) _)) _) _ => okE 0 top sc a xa
    | _ => false
  | .prim p a, x => tstB md x && match x with
    | .Call (.Name n _) [xa] [] _ => decide (primN p = n) && decide (p ≠ .max2) && glB sc n && okE 0 top sc a xa && notStar xa
    | _ => false
  | .prim2 p a b, x => tstB md x && match x with
    | .Call (.Name n _) [xa, xb] [] _ => decide (p = .max2) && decide (n = "max") && glB sc n && okE 0 top sc a xa && okE 0 top sc b xb && notStar xa && notStar xb
    | _ => false
  | .join a b, x => tstB md x && match x with
    | .Call (.Attribute xa n ap) [xb] [] cp => decide (n = "join") && okE 0 top sc a xa && okE 0 top sc b xb && notStar xb && superB xa && lineB ap cp
    | _ => false
  | .isin a ts, x => tstB md x && match x with
    | .Call (.Name n _) [xa, .Tuple xs _ _] [] _ => decide (n = "isinstance") && glB sc n && okE 0 top sc a xa && notStar xa && tysB T sc ts xs && decide (xs.length ≤ 16777216)
    | .Call (.Name n _) [xa, xb] [] _ => decide (n = "isinstance") && glB sc n && okE 0 top sc a xa && notStar xa && tysB T sc ts [xb]
    | _ => false
  | .call f as, x => tstB md x && match x with
    | .Call (.Name n _) (xa :: xs) [] _ => T.fn.contains (n, f, as.length) && glB sc n && nmB n && okA top sc as (xa :: xs) && (xa :: xs).all notStar
    | _ => false
  | .callL f as, x => tstB md x && match x with
    | .Call (.Name n _) (xa :: xs) [] _ => T.fn.contains (n, f, as.length) && glB sc n && nmB n && okL top sc as (xa :: xs) && (xa :: xs).all notStar
    | _ => false
  | .newa _, _ => false
  | .ref _, _ => false
  | .pop i, x => tstB md x && match x with
    | .Call (.Attribute (.Name n p) an ap) [] [] cp => decide (an = "pop") && slB N sc i (.Name n p) && lineB ap cp
    | _ => false
  | .attr a f, x => tstB md x && match x with
    | .Attribute xa n _ => T.fld.contains (n, f) && okE 0 top sc a xa && superB xa
    | _ => false
  | .prop a m, x => tstB md x && match x with
    | .Attribute xa n _ => T.prop.contains (n, m) && okE 0 top sc a xa && superB xa
    | _ => false
  | .comp y src cnd elt, x => tstB md x && match x with
    | .ListComp xe [⟨.Name tn _, xi, ifs, k⟩] scope _ => top && decide (k = 0) && decide (N[y]? = some tn) && blkC N sc scope [(tn, y)] && locB scope tn && okE 2 top sc src xi && setE xi && okC scope cnd ifs && okE 0 false scope elt xe
    | _ => false
  | .mk c as, x => tstB md x && match x with
    | .Call (.Name n _) (xa :: xs) [] _ => T.mks.contains (n, c, as.length) && glB sc n && nmB n && okA top sc as (xa :: xs) && (xa :: xs).all notStar
    | _ => false
  | .iter _, _ => false
  | .rng a b, x => decide (md = 2) && match x with
    | .Call (.Name n _) [xa, xb] [] _ => decide (n = "range") && glB sc n && okE 0 top sc a xa && okE 0 top sc b xb && notStar xa && notStar xb
    | .Call (.Name n _) [xb] [] _ => decide (n = "range") && glB sc n && isZ a && okE 0 top sc b xb && notStar xb
    | _ => false
def okEs (top : Bool) (sc : Scope) : List E → List Expr → Bool
  | [], xs => match xs with
    | [] => true
    | _ => false
  | e :: es, xs => match xs with
    | x :: xs => okE 0 top sc e x && notStar x && okEs top sc es xs
    | [] => false
def okA (top : Bool) (sc : Scope) : List E → List Expr → Bool
  | [], xs => match xs with
    | [] => true
    | _ => false
  | .ref i :: es, xs => match xs with
    | x :: xs => slB N sc i x && okA top sc es xs
    | [] => false
  | e :: es, xs => match xs with
    | x :: xs => okE 0 top sc e x && notStar x && okA top sc es xs
    | [] => false
def okL (top : Bool) (sc : Scope) : List E → List Expr → Bool
  | [], _ => false
  | .newa e :: es, xs => match xs with
    | [x] => okE 0 top sc e x && notStar x && es.isEmpty
    | _ => false
  | .ref i :: es, xs => match xs with
    | x :: xs => slB N sc i x && okL top sc es xs
    | [] => false
  | e :: es, xs => match xs with
    | x :: xs => okE 0 top sc e x && notStar x && okL top sc es xs
    | [] => false
def okO (top : Bool) (sc : Scope) : Option E → Option Expr → Bool
  | none, x => match x with
    | none => true
    | _ => false
  | some e, x => match x with
    | some x => okE 0 top sc e x
    | none => false
/-- a condition, none or one -/
def okC (sc : Scope) : Option E → List Expr → Bool
  | none, xs => match xs with
    | [] => true
    | _ => false
  | some e, xs => match xs with
    | [x] => okE 1 false sc e x
    | _ => false
end
end
end MV
set_option maxHeartbeats 1000000
/-! MVSnd: what is checked holds. -/
namespace MV
open PySem PySem.Spec L2

structure Pg where
  prog : Program
  w : World
  K : PySem.W.Frag
  mg : Str → Option Value
  base : Heap
  CX : CXT
abbrev Pg.Fn (Z : Pg) (G : Gx) (P : Phi) (k : Nat) (fa : Addr) (f np : Nat) : Prop := ∃ fd ps, FnOk Z.prog Z.w Z.K Z.mg Z.base Z.CX k fa fd ps (spF G P f np) ∧ Binds Z.K fd ps []
structure CxOk (Z : Pg) (G : Gx) (N : List Str) (k : Nat) (top : Bool) (sc : Scope) (X : Cx) : Prop where
  hpr : X.prog = Z.prog
  hw : X.w = Z.w
  hK : X.K = Z.K
  hmg : X.mg = Z.mg
  hbs : X.base = Z.base
  hN : X.N = N
  nd : N.Nodup
  calm : X.calm = true
  room : Room (k + 1) X.A
  vis : ∀ n, visB sc n = true → Vis X.env.scope n
  loc : ∀ n, locB sc n = true → Loc X.env.scope n ∧ (X.fn n = true ∨ X.env.scope.names.lookup n = some .local)
  gl : ∀ n, glB sc n = true → Gl X n
  scE : top = true → X.env.scope = sc
def bltN : List Str := ["len", "list", "tuple", "sorted", "int", "max", "isinstance", "range"]
structure Facts (Z : Pg) (G : Gx) (T : Tab) (I : Info) (P : Phi) (k : Nat) : Prop where
  hG : G.K = Z.K
  attr : AttrF G
  kit : KitF G
  never : ∀ X, Passes Z.CX X Never
  blt : ∀ n ∈ bltN, Z.mg n = none
  gl : ∀ n g, T.gl.contains (n, g) = true → ∃ d u uv, I.glob g = some d ∧ Z.mg n = some uv ∧ RelV u uv ∧ ∀ F, Is G F d u
  cc : ∀ cn c an k, T.cc.contains (cn, c, an, k) = true → ∃ C mc u uv d, Z.mg cn = some (.ref C) ∧ ClX.CRead Z.K C mc ∧ ClX.CVal Z.K C mc an u uv ∧ I.ccon c k = some d ∧ ∀ F, Is G F d u
  fld : ∀ n f, T.fld.contains (n, f) = true → G.fname f = n ∧ FldF G f
  ty : ∀ n t, T.ty.contains (n, t) = true → TyF G t ∧ ∃ u uv, ClsV u (tyV' G t) ∧ RelV u uv ∧ (Z.mg n = some uv ∨ (Z.mg n = none ∧ bootBuiltins n = some uv ∧ n ≠ "__name__"))
  fn : ∀ n f np, T.fn.contains (n, f, np) = true → ∃ fa, Z.Fn G P k fa f np ∧ Z.mg n = some (.ref fa) ∧ PySem.W.keepIn Z.K (.ref fa) = true
  mks : ∀ n c np, T.mks.contains (n, c, np) = true → ∃ fa f, I.init c = some f ∧ G.ck c ∧ Mk Z.K (G.ca c) fa ∧ Z.Fn G P k fa f (np + 1) ∧ Z.mg n = some (.ref (G.ca c))
  prop : ∀ n m, T.prop.contains (n, m) = true → ∃ c0 f pr fa, (∀ c f', I.meth c m = some f' → c = c0 ∧ f' = f) ∧ Cls Z.K (G.ca c0) ∧ PropOf Z.K (G.ca c0) n pr fa ∧ Z.Fn G P k fa f 1
  len : (∀ c, I.lenm c = none) ∨ ∃ c0 f fa, (∀ c f', I.lenm c = some f' → c = c0 ∧ f' = f) ∧ PySem.W.findIn Z.K (.ref (G.ca c0)) "__len__" = some (some (.ref fa)) ∧ PySem.W.isFn Z.K (.ref fa) = true ∧ Z.Fn G P k fa f 1
  eq : (∀ c, I.eqm c = none) ∨ ∃ c0 f fa, (∀ c f', I.eqm c = some f' → c = c0 ∧ f' = f) ∧ PySem.W.findIn Z.K (.ref (G.ca c0)) "__eq__" = some (some (.ref fa)) ∧ PySem.W.isFn Z.K (.ref fa) = true ∧ Z.Fn G P k fa f 2
  iter : ∀ N top sc X tg x m, CxOk Z G N k top sc X → PE X x (RT G W0 m) → OwnI G X I P tg x m

/-! ### a meaning that is less often there -/
def MLe {α : Type} (m1 m2 : M α) : Prop := ∀ e, m1 e = .stuck ∨ m1 e = m2 e
theorem MLe.refl {α : Type} (m : M α) : MLe m m := fun _ => .inr rfl
theorem MLe.bnd {α β : Type} {m : M α} {f g : α → M β} (h : ∀ a, MLe (f a) (g a)) : MLe (bnd m f) (bnd m g) := fun e => by
  unfold MV.bnd
  cases m e with
  | ok a e1 => exact h a e1
  | exc _ _ => exact .inr rfl
  | stuck => exact .inl rfl
theorem RT.le {G : Gx} {σ : L2.St} {H : Hp} {Q : VK} {Wx : L2.St → KW D} {m1 m2 : M W} (h : MLe m1 m2) (r : RT G Wx m1 σ H Q) : RT G Wx m2 σ H Q := by
  obtain ⟨F, e, R, r⟩ := r
  refine ⟨F, e, R, ?_⟩
  unfold Ex at r ⊢
  rcases h e with q | q
  · rw [q] at r; exact r.elim
  · rw [← q]; exact r
theorem PE.le {G : Gx} {X : Cx} {x : Expr} {Wx : L2.St → KW D} {m1 m2 : M W} (h : MLe m1 m2) (r : PE X x (RT G Wx m2)) : PE X x (RT G Wx m1) := PE.imp r fun _ _ _ k => k.le h
theorem stuck_frz {α : Type} {x : W} {f : D → M α} (h : ∀ d e, f d e = .stuck) (e : Env) : bnd (frz x) f e = .stuck := by
  unfold bnd
  cases q : frz x e with
  | ok a e1 => exact h a e1
  | exc z e1 =>
    exfalso
    unfold frz at q
    split at q
    · cases q
    · cases q
    · split at q <;> cases q
  | stuck => rfl
theorem lenM_le {I : Info} {P : Phi} (h : ∀ c, I.lenm c = none) (x : W) : MLe (lenM I P x) (bnd (rd x) fun s => optM (prim1 .len s)) := MLe.bnd fun s => by
  intro e
  cases q : objOf s with
  | none => exact .inr rfl
  | some o =>
    obtain ⟨c, ns, xs⟩ := o
    refine .inl (stuck_frz (fun d e => ?_) e)
    rw [h]; rfl
theorem cmpEM_le {I : Info} {P : Phi} {o : Cop} {ma mb : M W} (h : ∀ c, I.eqm c = none) : MLe (cmpEM I P o ma mb) (cmpM0 o ma mb) := by
  by_cases ho : o = .eq
  · subst ho
    refine MLe.bnd fun x => MLe.bnd fun y => MLe.bnd fun s => MLe.bnd fun t => ?_
    intro e
    cases q : objOf s with
    | none => exact .inr rfl
    | some o =>
      cases q2 : objOf t with
      | none => exact .inr rfl
      | some o2 =>
        obtain ⟨c, ns, xs⟩ := o
        obtain ⟨c2, ns2, xs2⟩ := o2
        left
        dsimp only
        by_cases hc : c = c2
        · rw [if_pos hc]
          exact stuck_frz (fun d e => stuck_frz (fun d' e => by rw [h]; rfl) e) e
        · rw [if_neg hc]; rfl
  · rw [cmpEM_ne ho]; exact .refl _

section
variable {Z : Pg} {G : Gx} {T : Tab} {I : Info} {P : Phi} {k : Nat} {N : List Str} {sc : Scope} {X : Cx} {top : Bool} {x : Expr} {n : Str} {p pos : Pos}

theorem CxOk.rel (c : CxOk Z G N k top sc X) (f : Facts Z G T I P k) : G.K = X.K := by rw [c.hK]; exact f.hG
theorem CxOk.u200 (c : CxOk Z G N k top sc X) : X.A.units + 200 < cLine := by have := c.room.un; omega
theorem CxOk.u64 (c : CxOk Z G N k top sc X) : X.A.units + 64 < cLine := by have := c.room.un; omega
theorem CxOk.bm (c : CxOk Z G N k top sc X) (f : Facts Z G T I P k) (h : n ∈ bltN) : X.mg n = none := by rw [c.hmg]; exact f.blt n h
theorem CxOk.fn (c : CxOk Z G N k top sc X) {fa : Addr} {fi np : Nat} (h : Z.Fn G P k fa fi np) : ∃ fd ps, FnOk X.prog X.w X.K X.mg X.base Z.CX k fa fd ps (spF G P fi np) ∧ Binds X.K fd ps [] := by
  rw [c.hpr, c.hw, c.hK, c.hmg, c.hbs]; exact h
theorem nm_of (h : nmB n = true) : (n == ("__debug__" : Str)) = false ∧ (n == ("__classdict__" : Str)) = false := by
  unfold nmB at h
  simpa using h
theorem slot_of (c : CxOk Z G N k top sc X) {i : Nat} (h : slB N sc i x = true) : ∃ n p, x = .Name n p ∧ X.N[i]? = some n ∧ Vis X.env.scope n ∧ (n == ("__debug__" : Str)) = false ∧ (n == ("__classdict__" : Str)) = false := by
  unfold slB at h
  split at h
  · rename_i n p
    simp only [Bool.and_eq_true, decide_eq_true_eq] at h
    obtain ⟨⟨h1, h2⟩, h3⟩ := h
    obtain ⟨h4, h5⟩ := nm_of h3
    exact ⟨n, p, rfl, by rw [c.hN]; exact h1, c.vis n h2, h4, h5⟩
  · cases h
theorem ty_of (c : CxOk Z G N k top sc X) (f : Facts Z G T I P k) {t : Ty} (h : tyB T sc t x = true) : TyF G t ∧ notStar x = true ∧ ∃ u, PE X x (tC u) ∧ ClsV u (tyV' G t) := by
  unfold tyB at h
  split at h
  · rename_i n p
    simp only [Bool.and_eq_true] at h
    obtain ⟨⟨h1, h2⟩, h3⟩ := h
    obtain ⟨h4, h5⟩ := nm_of h3
    obtain ⟨tf, u, uv, k1, k2, k3⟩ := f.ty n t h1
    refine ⟨tf, rfl, u, ?_, k1⟩
    rcases k3 with k3 | ⟨k3, k4, k5⟩
    · exact pe_glob (c.gl n h2) (by rw [c.hmg]; exact k3) k2 h4
    · exact pe_bltn (c.gl n h2) (by rw [c.hmg]; exact k3) k4 k2 k5 h4
  · cases h
theorem tys_of (c : CxOk Z G N k top sc X) (f : Facts Z G T I P k) : ∀ {ts : List Ty} {xs : List Expr}, tysB T sc ts xs = true → (∀ t ∈ ts, TyF G t) ∧ xs.all notStar = true ∧ ∃ us, PySem.Paired (fun e u => PE X e (tC u)) xs us ∧ PySem.Paired ClsV us (ts.map (tyV' G)) ∧ us.length = xs.length
  | [], [], _ => ⟨fun _ h => (by cases h), rfl, [], .nil, .nil, rfl⟩
  | [], _ :: _, h => by cases h
  | _ :: _, [], h => by cases h
  | t :: ts, x :: xs, h => by
    rw [tysB, Bool.and_eq_true] at h
    obtain ⟨h1, h2⟩ := h
    obtain ⟨a1, a2, u, a3, a4⟩ := ty_of c f h1
    obtain ⟨b1, b2, us, b3, b4, b5⟩ := tys_of c f h2
    refine ⟨fun t' ht => ?_, by rw [List.all_cons, a2, b2]; rfl, u :: us, .cons a3 b3, .cons a4 b4, by simp [b5]⟩
    rcases List.mem_cons.mp ht with rfl | ht
    · exact a1
    · exact b1 t' ht
/-- a comprehension's own context -/
theorem CxOk.blk (c : CxOk Z G N k true sc X) {scope : Scope} {s : Shared} {H : Hp} {C : Addr} {cl : List (Str × Addr)} {fp : List Addr} : CxOk Z G N k false scope (X.blk s H scope (compEnvC scope cl C X.env) fp) := by
  have lk : ∀ n, (relabel scope X.env).names.lookup n = (scope.names.lookup n).map fun kd => if (kd == .free && X.env.scope.kind == .function && X.env.kindOf n == some .cell) = true then .cell else kd := fun n => by
    unfold relabel
    dsimp only
    generalize scope.names = l
    induction l with
    | nil => rfl
    | cons y ys ih =>
      obtain ⟨m, kd⟩ := y
      rw [List.map_cons, List.lookup_cons]
      by_cases hc : (kd == NameKind.free && X.env.scope.kind == .function && X.env.kindOf m == some .cell) = true
      · rw [if_pos hc, List.lookup_cons]
        by_cases hm : (n == m) = true
        · have : n = m := by simpa using hm
          subst this
          simp only [hm]
          rw [Option.map_some, if_pos hc]
        · rw [Bool.not_eq_true] at hm
          simp only [hm]
          exact ih
      · rw [if_neg hc, List.lookup_cons]
        by_cases hm : (n == m) = true
        · have : n = m := by simpa using hm
          subst this
          simp only [hm]
          rw [Option.map_some, if_neg hc]
        · rw [Bool.not_eq_true] at hm
          simp only [hm]
          exact ih
  refine ⟨c.hpr, c.hw, c.hK, c.hmg, c.hbs, c.hN, c.nd, c.calm, c.room, fun n h => ?_, fun n h => ?_, fun n h => ?_, by intro z; cases z⟩
  · unfold visB at h
    show (relabel scope X.env).names.lookup n = _ ∨ (relabel scope X.env).names.lookup n = _ ∨ (relabel scope X.env).names.lookup n = _
    rw [lk]
    split at h
    · rename_i q; rw [q]; exact .inl rfl
    · rename_i q; rw [q]; exact .inr (.inl rfl)
    · rename_i q
      rw [q, Option.map_some]
      split
      · exact .inr (.inl rfl)
      · exact .inr (.inr rfl)
    · cases h
  · unfold locB at h
    show ((relabel scope X.env).names.lookup n = _ ∨ (relabel scope X.env).names.lookup n = _) ∧ ((scope.names.lookup n == some .cell) = true ∨ (relabel scope X.env).names.lookup n = _)
    rw [lk]
    split at h
    · rename_i q; rw [q]; exact ⟨.inl rfl, .inr rfl⟩
    · rename_i q; rw [q]; exact ⟨.inr rfl, .inl rfl⟩
    · cases h
  · unfold glB at h
    show (relabel scope X.env).names.lookup n = _
    rw [lk]
    split at h
    · rename_i q; rw [q]; rfl
    · cases h
end
end MV
set_option maxHeartbeats 4000000
/-! MVSnd2: what is checked holds. -/
namespace MV
open PySem PySem.Spec L2

section
variable {Z : Pg} {G : Gx} {T : Tab} {I : Info} {P : Phi} {k : Nat} {N : List Str}

theorem primN_mem : ∀ p : Prim, p ≠ .max2 → primN p ∈ bltN
  | .len, _ => by decide
  | .list, _ => by decide
  | .tuple, _ => by decide
  | .sorted, _ => by decide
  | .int, _ => by decide
  | .max, _ => by decide
  | .max2, h => absurd rfl h
theorem prim_rule {p : Prim} {X : Cx} {top : Bool} {sc : Scope} {xa : Expr} {pp pos : Pos} {m : M W} (f : Facts Z G T I P k) (c : CxOk Z G N k top sc X) (hp : p ≠ .max2) (hg : glB sc (primN p) = true) (ha : PE X xa (RT G W0 m)) (hs : notStar xa = true) :
    PE X (.Call (.Name (primN p) pp) [xa] [] pos) (RT G W0 (bnd m (primM I P p))) := by
  have hG := c.rel f
  have g := c.gl _ hg
  have mn := c.bm f (primN_mem p hp)
  cases p with
  | len =>
    rcases f.len with h | ⟨c0, fi, fa, h1, h2, h3, h4⟩
    · exact PE.le (MLe.bnd fun x => lenM_le h x) (se_len hG g mn ha hs)
    · obtain ⟨fd, ps, Fn, hb⟩ := c.fn h4
      exact se_len2 h1 (by rw [c.hK]; exact h2) (by rw [c.hK]; exact h3) Fn c.room hb (f.never X) hG g mn ha hs
  | list => exact se_list hG g mn ha hs
  | tuple => exact se_tuple hG g mn ha hs
  | sorted => exact se_sorted hG c.u200 g mn ha hs
  | int => exact se_int g mn ha hs
  | max => exact se_max hG c.calm g mn ha hs
  | max2 => exact absurd rfl hp

theorem evA_length {I : Info} {P : Phi} : ∀ (ms : List E) (e : Env) (xs : List AV) (e' : Env), evA I P ms e = .ok xs e' → xs.length = ms.length
  | [], e, xs, e', h => by
    rw [evA] at h
    cases h; rfl
  | m :: ms, e, xs, e', h => by
    by_cases hr : ∃ i, m = .ref i
    · obtain ⟨i, rfl⟩ := hr
      rw [evA] at h
      have h : (match e.get i with
        | some (.own _) => (bnd (evA I P ms) fun xs => ret (.r i :: xs)) e
        | _ => .stuck) = Res.ok xs e' := h
      split at h
      · unfold bnd at h
        cases q2 : evA I P ms e with
        | ok ds e3 =>
          rw [q2] at h
          cases h
          simp [evA_length ms e ds _ q2]
        | exc _ _ => rw [q2] at h; cases h
        | stuck => rw [q2] at h; cases h
      · cases h
    · rw [evA] at h
      · unfold bnd at h
        cases q : ev I P m e with
        | ok w e1 =>
          rw [q] at h
          dsimp only at h
          cases q1 : frz w e1 with
          | ok d e2 =>
            rw [q1] at h
            dsimp only at h
            cases q2 : evA I P ms e2 with
            | ok ds e3 =>
              rw [q2] at h
              cases h
              simp [evA_length ms e2 ds _ q2]
            | exc _ _ => rw [q2] at h; cases h
            | stuck => rw [q2] at h; cases h
          | exc _ _ => rw [q1] at h; cases h
          | stuck => rw [q1] at h; cases h
        | exc _ _ => rw [q] at h; cases h
        | stuck => rw [q] at h; cases h
      · intro i hi; exact hr ⟨i, hi⟩
theorem okA_cons {T : Tab} {N : List Str} {top : Bool} {sc : Scope} {e : E} {es : List E} {xs : List Expr} (h : ∀ i, e ≠ .ref i) : okA T N top sc (e :: es) xs = match xs with
    | x :: xs => okE T N 0 top sc e x && notStar x && okA T N top sc es xs
    | [] => false := by
  cases e <;> first | rfl | exact absurd rfl (h _)
theorem evA_cons {I : Info} {P : Phi} {e : E} {es : List E} (h : ∀ i, e ≠ .ref i) : evA I P (e :: es) = bnd (ev I P e) fun x => bnd (frz x) fun x => bnd (evA I P es) fun xs => ret (.d x :: xs) := by
  cases e <;> first | rfl | exact absurd rfl (h _)
theorem okL_cons {T : Tab} {N : List Str} {top : Bool} {sc : Scope} {e : E} {es : List E} {xs : List Expr} (h : ∀ i, e ≠ .ref i) (h2 : ∀ i, e ≠ .newa i) : okL T N top sc (e :: es) xs = match xs with
    | x :: xs => okE T N 0 top sc e x && notStar x && okL T N top sc es xs
    | [] => false := by
  cases e <;> first | rfl | exact absurd rfl (h _) | exact absurd rfl (h2 _)
theorem evL_cons {I : Info} {P : Phi} {e : E} {es : List E} (h : ∀ i, e ≠ .ref i) (h2 : ∀ i, e ≠ .newa i) : evL I P (e :: es) = bnd (ev I P e) fun x => bnd (frz x) fun x => bnd (evL I P es) fun q => ret (.d x :: q.1, q.2) := by
  cases e <;> first | rfl | exact absurd rfl (h _) | exact absurd rfl (h2 _)
theorem ok_bnd {α β : Type} {m : M α} {g : α → M β} {e e' : Env} {b : β} (h : bnd m g e = .ok b e') : ∃ a e1, m e = .ok a e1 ∧ g a e1 = .ok b e' := by
  unfold bnd at h
  cases q : m e with
  | ok a e1 => rw [q] at h; exact ⟨a, e1, rfl, h⟩
  | exc _ _ => rw [q] at h; cases h
  | stuck => rw [q] at h; cases h
theorem all_mem {es : List Expr} (h : es.all notStar = true) : ∀ y ∈ es, notStar y = true := List.all_eq_true.mp h
theorem lcE {X : Cx} {sc : Scope} {scope : Scope} {y : Nat} {tn : Str} {xi xe : Expr} {tp pos : Pos} {m0 : M (List D)} {body : M (Option D)} {tt : TT} {te : TE} {ifs : List Expr} (c : CxOk Z G N k true sc X) (hT : TurnB G body tt te) (hn : N[y]? = some tn) (hb : blkC N sc scope [(tn, y)] = true) (hl : locB scope tn = true)
    (hi : PI X (.Name tn tp) xi (RI G m0)) (hse : setE xi = true) (ht : ∀ X', CxOk Z G N k false scope X' → PTs X' ifs tt) (he : ∀ X', CxOk Z G N k false scope X' → PE X' xe te) :
    PE X (.ListComp xe [⟨.Name tn tp, xi, ifs, 0⟩] scope pos) (RT G W0 (compM y m0 body)) := by
  have nd : X.N.Nodup := by rw [c.hN]; exact c.nd
  have hn' : X.N[y]? = some tn := by rw [c.hN]; exact hn
  refine PE.imp (pe_lc (own := [(tn, y)]) c.calm nd hi (blkOk_by (by rw [c.hN, c.scE rfl]; exact hb)) (fun s H C cl fp => ?_) (fun s H C cl fp => ht _ c.blk) (fun s H C cl fp => he _ c.blk) (folded_of hse)) fun σ H Q h => lc_imp hT h
  obtain ⟨l1, l2⟩ := (CxOk.blk c (s := s) (H := H) (C := C) (cl := cl) (fp := fp)).loc tn hl
  exact pg_name nd hn' l1 l2

theorem boolM_cmpE {o : Cop} {ma mb : M W} : BoolM (cmpEM I P o ma mb) := by
  refine boolM_bnd fun x => boolM_bnd fun y => boolM_bnd fun s => boolM_bnd fun t => ?_
  have fin : ∀ b : Option Bool, BoolM (bnd (optM b) fun b => ret (.d (.bl b))) := fun b => boolM_bnd fun b => boolM_ret b
  split
  · split
    · refine boolM_bnd fun _ => boolM_bnd fun _ => boolM_bnd fun _ => boolM_bnd fun w => ?_
      unfold ansB
      split
      · exact boolM_ret _
      · intro e w e' q; cases q
    · intro e w e' q; cases q
  · exact fin _
theorem eq_of_cop {po : CmpOp} (h : copB .eq po = true) : po = .Eq := by
  cases po <;> first | rfl | exact absurd h Bool.false_ne_true
theorem cmpR {o : Cop} {po : CmpOp} {X : Cx} {top : Bool} {sc : Scope} {xa xb : Expr} {pos : Pos} {ma mb : M W} (f : Facts Z G T I P k) (c : CxOk Z G N k top sc X) (hb : copB o po = true) (h1 : PE X xa (RT G W0 ma)) (h2 : PE X xb (RT G W0 mb)) (hm : behindInMarks po xb = false) :
    PE X (.Compare xa [po] [xb] pos) (RT G W0 (cmpEM I P o ma mb)) := by
  by_cases ho : o = .eq
  · subst ho
    rcases f.eq with h | ⟨c0, fi, fa, e1, e2, e3, e4⟩
    · exact PE.le (cmpEM_le h) (se_cmp (c.rel f) c.u64 hb h1 h2 hm)
    · obtain ⟨fd, ps, Fn, hbd⟩ := c.fn e4
      have hop := op_cmp (X := X) (G := G) (o := .eq) (c.rel f) c.u64 hb
      have e5 := eq_of_cop hb
      subst e5
      exact PE.imp (pe_cmpR (hop.or (op_eqO (by rw [c.hK]; exact e2) (by rw [c.hK]; exact e3) Fn (c.room.mono (by omega)) hbd (f.never X))) h1 h2 hm) fun _ _ _ q => cmpE_imp e1 q
  · rw [cmpEM_ne ho]
    exact se_cmp (c.rel f) c.u64 hb h1 h2 hm
theorem PT.le {X : Cx} {x : Expr} {m1 m2 : M W} (h : MLe m1 m2) (r : PT X x (RTT G W0 m2)) : PT X x (RTT G W0 m1) := PT.imp r fun σ H Q ⟨F, e, R, q⟩ => by
  refine ⟨F, e, R, ?_⟩
  unfold Ex bnd at q ⊢
  rcases h e with q1 | q1
  · rw [q1] at q; exact q.elim
  · rw [← q1]; exact q
theorem cmpRT {o : Cop} {po : CmpOp} {X : Cx} {top : Bool} {sc : Scope} {xa xb : Expr} {pos : Pos} {ma mb : M W} (f : Facts Z G T I P k) (c : CxOk Z G N k top sc X) (hb : copB o po = true) (h1 : PE X xa (RT G W0 ma)) (h2 : PE X xb (RT G W0 mb)) (hm : behindInMarks po xb = false) :
    PT X (.Compare xa [po] [xb] pos) (RTT G W0 (cmpEM I P o ma mb)) := by
  by_cases ho : o = .eq
  · subst ho
    rcases f.eq with h | ⟨c0, fi, fa, e1, e2, e3, e4⟩
    · exact PT.le (cmpEM_le h) (st_cmp (c.rel f) c.u64 hb h1 h2 hm)
    · obtain ⟨fd, ps, Fn, hbd⟩ := c.fn e4
      have hop := op_cmp (X := X) (G := G) (o := .eq) (c.rel f) c.u64 hb
      have e5 := eq_of_cop hb
      subst e5
      exact PT.imp (pt_cmpR (hop.or (op_eqO (by rw [c.hK]; exact e2) (by rw [c.hK]; exact e3) Fn (c.room.mono (by omega)) hbd (f.never X))) h1 h2 hm) fun _ _ _ q => cmpE_imp e1 (RTT.val boolM_cmpE q)
  · rw [cmpEM_ne ho]
    exact st_cmp (c.rel f) c.u64 hb h1 h2 hm

variable (Z G T I P k N) in
def A0 (e : E) : Prop := ∀ (top : Bool) (sc : Scope) (X : Cx) (x : Expr), CxOk Z G N k top sc X → okE T N 0 top sc e x = true → PE X x (RT G W0 (ev I P e))
variable (Z G T I P k N) in
def A1 (e : E) : Prop := ∀ (top : Bool) (sc : Scope) (X : Cx) (x : Expr), CxOk Z G N k top sc X → okE T N 1 top sc e x = true → PT X x (RTT G W0 (ev I P e))
/-- and, or: what is left of it -/
def AW (Z : Pg) (G : Gx) (T : Tab) (I : Info) (P : Phi) (k : Nat) (N : List Str) (e : E) : Prop := ∀ (top : Bool) (sc : Scope) (X : Cx) (op : BoolOp) (x y : Expr) (xs : List Expr) (p : Pos), CxOk Z G N k top sc X → okE T N 1 top sc e (.BoolOp op (x :: y :: xs) p) = true → PW X (.BoolOp op (x :: y :: xs) p) (RTT G W0 (ev I P e))
variable (Z G T I P k N) in
def A2 (e : E) : Prop := ∀ (top : Bool) (sc : Scope) (X : Cx) (x tg : Expr), CxOk Z G N k top sc X → okE T N 2 top sc e x = true → PI X tg x (RI G (srcM I P (ev I P e)))
variable (Z G T I P k N) in
structure Good (e : E) : Prop where
  v : A0 Z G T I P k N e
  t : A1 Z G T I P k N e
  w : AW Z G T I P k N e
  i : A2 Z G T I P k N e
theorem i_of {e : E} (f : Facts Z G T I P k) (h0 : A0 Z G T I P k N e) (h2 : ∀ top sc x, okE T N 2 top sc e x = true → okE T N 0 top sc e x = true) : A2 Z G T I P k N e := fun top sc X x tg c h =>
  pi_any (c.rel f) (h0 top sc X x c (h2 top sc x h)) (f.iter N top sc X tg x _ c (h0 top sc X x c (h2 top sc x h)))
theorem good_of {e : E} (f : Facts Z G T I P k) (h0 : A0 Z G T I P k N e) (h1 : ∀ top sc x, okE T N 1 top sc e x = true → plainT x = true ∧ okE T N 0 top sc e x = true) (h2 : ∀ top sc x, okE T N 2 top sc e x = true → okE T N 0 top sc e x = true) : Good Z G T I P k N e :=
  ⟨h0, fun top sc X x c h => st_plain (c.rel f) (h0 top sc X x c (h1 top sc x h).2) (h1 top sc x h).1, fun top sc X op x y xs p c h => absurd (h1 top sc _ h).1 Bool.false_ne_true, i_of f h0 h2⟩
theorem tst1 {x : Expr} (h : tstB 1 x = true) : plainT x = true := by simpa [tstB] using h
theorem tst0 {x : Expr} : tstB 0 x = true := rfl

mutual
theorem snd (f : Facts Z G T I P k) : ∀ (e : E), Good Z G T I P k N e
  | .var i => good_of f (fun top sc X x c h => by
      unfold okE at h; rw [Bool.and_eq_true] at h
      obtain ⟨n, p, rfl, h1, h2, h3, h4⟩ := slot_of c h.2
      exact se_var h1 h2 h3 h4)
      (fun top sc x h => by unfold okE at h; rw [Bool.and_eq_true] at h; exact ⟨tst1 h.1, by unfold okE; rw [Bool.and_eq_true]; exact ⟨tst0, h.2⟩⟩) (fun top sc x h => by unfold okE at h; rw [Bool.and_eq_true] at h; unfold okE; rw [Bool.and_eq_true]; exact ⟨tst0, h.2⟩)
  | .cst d => good_of f (fun top sc X x c h => by
      unfold okE at h; rw [Bool.and_eq_true] at h
      rw [ev]
      exact se_lit h.2)
      (fun top sc x h => by unfold okE at h; rw [Bool.and_eq_true] at h; exact ⟨tst1 h.1, by unfold okE; rw [Bool.and_eq_true]; exact ⟨tst0, h.2⟩⟩) (fun top sc x h => by unfold okE at h; rw [Bool.and_eq_true] at h; unfold okE; rw [Bool.and_eq_true]; exact ⟨tst0, h.2⟩)
  | .glob g => good_of f (fun top sc X x c h => by
      unfold okE at h; rw [Bool.and_eq_true] at h
      obtain ⟨_, h⟩ := h
      split at h
      · rename_i n p _
        simp only [Bool.and_eq_true] at h
        obtain ⟨⟨h1, h2⟩, h3⟩ := h
        obtain ⟨d, u, uv, k1, k2, k3, k4⟩ := f.gl n g h1
        rw [ev, k1]
        exact se_glob (c.gl n h2) (by rw [c.hmg]; exact k2) k3 k4 (nm_of h3).1
      · cases h)
      (fun top sc x h => by unfold okE at h; rw [Bool.and_eq_true] at h; exact ⟨tst1 h.1, by unfold okE; rw [Bool.and_eq_true]; exact ⟨tst0, h.2⟩⟩) (fun top sc x h => by unfold okE at h; rw [Bool.and_eq_true] at h; unfold okE; rw [Bool.and_eq_true]; exact ⟨tst0, h.2⟩)
  | .ccon cc kk => good_of f (fun top sc X x c h => by
      unfold okE at h; rw [Bool.and_eq_true] at h
      obtain ⟨_, h⟩ := h
      split at h
      · rename_i cn p an p2 _
        simp only [Bool.and_eq_true] at h
        obtain ⟨⟨h1, h2⟩, h3⟩ := h
        obtain ⟨C, mc, u, uv, d, k1, k2, k3, k4, k5⟩ := f.cc cn cc an kk h1
        rw [ev, k4]
        exact se_cval (c.gl cn h2) (by rw [c.hmg]; exact k1) (nm_of h3).1 (by rw [c.hK]; exact k2) (by rw [c.hK]; exact k3) k5
      · cases h)
      (fun top sc x h => by unfold okE at h; rw [Bool.and_eq_true] at h; exact ⟨tst1 h.1, by unfold okE; rw [Bool.and_eq_true]; exact ⟨tst0, h.2⟩⟩) (fun top sc x h => by unfold okE at h; rw [Bool.and_eq_true] at h; unfold okE; rw [Bool.and_eq_true]; exact ⟨tst0, h.2⟩)
  | .tup es => good_of f (fun top sc X x c h => by
      unfold okE at h; rw [Bool.and_eq_true] at h
      obtain ⟨_, h⟩ := h
      split at h
      · rename_i xs kk p _
        simp only [Bool.and_eq_true, decide_eq_true_eq] at h
        obtain ⟨h1, hl⟩ := snds f es c h.1
        rw [ev]
        exact se_tup h1 h.2 fun e ds e' q => (evs_length es e ds e' q).trans hl
      · cases h)
      (fun top sc x h => by unfold okE at h; rw [Bool.and_eq_true] at h; exact ⟨tst1 h.1, by unfold okE; rw [Bool.and_eq_true]; exact ⟨tst0, h.2⟩⟩) (fun top sc x h => by unfold okE at h; rw [Bool.and_eq_true] at h; unfold okE; rw [Bool.and_eq_true]; exact ⟨tst0, h.2⟩)
  | .lst es => good_of f (fun top sc X x c h => by
      unfold okE at h; rw [Bool.and_eq_true] at h
      obtain ⟨_, h⟩ := h
      split at h
      · rename_i xs p _
        simp only [Bool.and_eq_true, decide_eq_true_eq] at h
        obtain ⟨h1, hl⟩ := snds f es c h.1
        rw [ev]
        exact se_lst h1 h.2 fun e ds e' q => (evs_length es e ds e' q).trans hl
      · cases h)
      (fun top sc x h => by unfold okE at h; rw [Bool.and_eq_true] at h; exact ⟨tst1 h.1, by unfold okE; rw [Bool.and_eq_true]; exact ⟨tst0, h.2⟩⟩) (fun top sc x h => by unfold okE at h; rw [Bool.and_eq_true] at h; unfold okE; rw [Bool.and_eq_true]; exact ⟨tst0, h.2⟩)
  | .bin o a b => good_of f (fun top sc X x c h => by
      unfold okE at h; rw [Bool.and_eq_true] at h
      obtain ⟨_, h⟩ := h
      split at h
      · simp only [Bool.and_eq_true] at h
        rw [ev]
        exact se_bin (c.rel f) h.1.1 ((snd f a).v _ _ _ _ c h.1.2) ((snd f b).v _ _ _ _ c h.2)
      · cases h)
      (fun top sc x h => by unfold okE at h; rw [Bool.and_eq_true] at h; exact ⟨tst1 h.1, by unfold okE; rw [Bool.and_eq_true]; exact ⟨tst0, h.2⟩⟩) (fun top sc x h => by unfold okE at h; rw [Bool.and_eq_true] at h; unfold okE; rw [Bool.and_eq_true]; exact ⟨tst0, h.2⟩)
  | .cmp o a b => by
    have h0 : A0 Z G T I P k N (.cmp o a b) := fun top sc X x c h => by
      unfold okE at h
      split at h
      · simp only [Bool.and_eq_true, Bool.not_eq_true'] at h
        rw [ev]
        exact cmpR f c h.1.1.1 ((snd f a).v _ _ _ _ c h.1.1.2) ((snd f b).v _ _ _ _ c h.1.2) h.2
      · cases h
    refine ⟨h0, (fun top sc X x c h => by
      unfold okE at h
      split at h
      · simp only [Bool.and_eq_true, Bool.not_eq_true'] at h
        rw [ev]
        exact cmpRT f c h.1.1.1 ((snd f a).v _ _ _ _ c h.1.1.2) ((snd f b).v _ _ _ _ c h.1.2) h.2
      · cases h), fun top sc X op x y xs p c h => ?_, i_of f h0 fun top sc x h => ?_⟩
    · unfold okE at h; cases h
    · unfold okE at h ⊢; exact h
  | .chain o1 o2 a b c' => by
    have h0 : A0 Z G T I P k N (.chain o1 o2 a b c') := fun top sc X x c h => by
      unfold okE at h
      split at h
      · simp only [Bool.and_eq_true, Bool.not_eq_true'] at h
        rw [ev]
        exact se_chain (c.rel f) c.u64 h.1.1.1.1.1 h.1.1.1.1.2 ((snd f a).v _ _ _ _ c h.1.1.1.2) ((snd f b).v _ _ _ _ c h.1.1.2) ((snd f c').v _ _ _ _ c h.1.2) h.2
      · cases h
    refine ⟨h0, (fun top sc X x c h => by
      unfold okE at h
      split at h
      · simp only [Bool.and_eq_true, Bool.not_eq_true'] at h
        rw [ev]
        exact st_chain (c.rel f) c.u64 h.1.1.1.1.1 h.1.1.1.1.2 ((snd f a).v _ _ _ _ c h.1.1.1.2) ((snd f b).v _ _ _ _ c h.1.1.2) ((snd f c').v _ _ _ _ c h.1.2) h.2
      · cases h), fun top sc X op x y xs p c h => ?_, i_of f h0 fun top sc x h => ?_⟩
    · unfold okE at h; cases h
    · unfold okE at h ⊢; exact h
  | .isNone a => by
    have h0 : A0 Z G T I P k N (.isNone a) := fun top sc X x c h => by
      unfold okE at h
      split at h
      · rw [ev]
        exact se_isN ((snd f a).v _ _ _ _ c h)
      · cases h
    refine ⟨h0, (fun top sc X x c h => by
      unfold okE at h
      split at h
      · rw [ev]
        exact st_isN ((snd f a).v _ _ _ _ c h)
      · cases h), fun top sc X op x y xs p c h => ?_, i_of f h0 fun top sc x h => ?_⟩
    · unfold okE at h; cases h
    · unfold okE at h ⊢; exact h
  | .notNone a => by
    have h0 : A0 Z G T I P k N (.notNone a) := fun top sc X x c h => by
      unfold okE at h
      split at h
      · rw [ev]
        exact se_notN ((snd f a).v _ _ _ _ c h)
      · cases h
    refine ⟨h0, (fun top sc X x c h => by
      unfold okE at h
      split at h
      · rw [ev]
        exact st_notN ((snd f a).v _ _ _ _ c h)
      · cases h), fun top sc X op x y xs p c h => ?_, i_of f h0 fun top sc x h => ?_⟩
    · unfold okE at h; cases h
    · unfold okE at h ⊢; exact h
  | .not a => by
    have h0 : A0 Z G T I P k N (.not a) := fun top sc X x c h => by
      unfold okE at h
      split at h
      · rw [ev]
        exact se_not (c.rel f) ((snd f a).v _ _ _ _ c h)
      · cases h
    refine ⟨h0, (fun top sc X x c h => by
      unfold okE at h
      split at h
      · rw [ev]
        exact st_not ((snd f a).t _ _ _ _ c h)
      · cases h), (fun top sc X op x y xs p c h => by
      unfold okE at h; cases h), i_of f h0 fun top sc x h => ?_⟩
    unfold okE at h ⊢; exact h
  | .and a b => by
    have h0 : A0 Z G T I P k N (.and a b) := fun top sc X x c h => by
      unfold okE at h
      split at h
      · rw [Bool.and_eq_true] at h
        rw [ev]
        exact se_and (c.rel f) ((snd f a).v _ _ _ _ c h.1) (pe_one ((snd f b).v _ _ _ _ c h.2))
      · rw [Bool.and_eq_true] at h
        rw [ev]
        exact se_and (c.rel f) ((snd f a).v _ _ _ _ c h.1) ((snd f b).v _ _ _ _ c h.2)
      · cases h
    refine ⟨h0, (fun top sc X x c h => by
      unfold okE at h
      split at h
      · rw [Bool.and_eq_true] at h
        rw [ev]
        exact (sw_and ((snd f a).t _ _ _ _ c h.1) (pw_and1 ((snd f b).t _ _ _ _ c h.2))).pt
      · rw [Bool.and_eq_true] at h
        rw [ev]
        exact (sw_and ((snd f a).t _ _ _ _ c h.1) ((snd f b).w _ _ _ _ _ _ _ _ c h.2)).pt
      · cases h), (fun top sc X op x y xs p c h => by
      unfold okE at h
      split at h
      · rename_i q
        cases q
        rw [Bool.and_eq_true] at h
        rw [ev]
        exact sw_and ((snd f a).t _ _ _ _ c h.1) (pw_and1 ((snd f b).t _ _ _ _ c h.2))
      · rename_i q
        cases q
        rw [Bool.and_eq_true] at h
        rw [ev]
        exact sw_and ((snd f a).t _ _ _ _ c h.1) ((snd f b).w _ _ _ _ _ _ _ _ c h.2)
      · cases h), i_of f h0 fun top sc x h => ?_⟩
    unfold okE at h ⊢; exact h
  | .or a b => by
    have h0 : A0 Z G T I P k N (.or a b) := fun top sc X x c h => by
      unfold okE at h
      split at h
      · rw [Bool.and_eq_true] at h
        rw [ev]
        exact se_or (c.rel f) ((snd f a).v _ _ _ _ c h.1) (pe_one ((snd f b).v _ _ _ _ c h.2))
      · rw [Bool.and_eq_true] at h
        rw [ev]
        exact se_or (c.rel f) ((snd f a).v _ _ _ _ c h.1) ((snd f b).v _ _ _ _ c h.2)
      · cases h
    refine ⟨h0, (fun top sc X x c h => by
      unfold okE at h
      split at h
      · rw [Bool.and_eq_true] at h
        rw [ev]
        exact (sw_or ((snd f a).t _ _ _ _ c h.1) (pw_or1 ((snd f b).t _ _ _ _ c h.2))).pt
      · rw [Bool.and_eq_true] at h
        rw [ev]
        exact (sw_or ((snd f a).t _ _ _ _ c h.1) ((snd f b).w _ _ _ _ _ _ _ _ c h.2)).pt
      · cases h), (fun top sc X op x y xs p c h => by
      unfold okE at h
      split at h
      · rename_i q
        cases q
        rw [Bool.and_eq_true] at h
        rw [ev]
        exact sw_or ((snd f a).t _ _ _ _ c h.1) (pw_or1 ((snd f b).t _ _ _ _ c h.2))
      · rename_i q
        cases q
        rw [Bool.and_eq_true] at h
        rw [ev]
        exact sw_or ((snd f a).t _ _ _ _ c h.1) ((snd f b).w _ _ _ _ _ _ _ _ c h.2)
      · cases h), i_of f h0 fun top sc x h => ?_⟩
    unfold okE at h ⊢; exact h
  | .ite c' a b => good_of f (fun top sc X x c h => by
      unfold okE at h; rw [Bool.and_eq_true] at h
      obtain ⟨_, h⟩ := h
      split at h
      · simp only [Bool.and_eq_true] at h
        rw [ev]
        exact se_ite ((snd f c').t _ _ _ _ c h.1.1) ((snd f a).v _ _ _ _ c h.1.2) ((snd f b).v _ _ _ _ c h.2)
      · cases h)
      (fun top sc x h => by unfold okE at h; rw [Bool.and_eq_true] at h; exact ⟨tst1 h.1, by unfold okE; rw [Bool.and_eq_true]; exact ⟨tst0, h.2⟩⟩) (fun top sc x h => by unfold okE at h; rw [Bool.and_eq_true] at h; unfold okE; rw [Bool.and_eq_true]; exact ⟨tst0, h.2⟩)
  | .idx a i => good_of f (fun top sc X x c h => by
      unfold okE at h; rw [Bool.and_eq_true] at h
      obtain ⟨_, h⟩ := h
      split at h
      · simp only [Bool.and_eq_true] at h
        rw [ev]
        exact se_idx (c.rel f) ((snd f a).v _ _ _ _ c h.1.1) ((snd f i).v _ _ _ _ c h.1.2) h.2
      · cases h)
      (fun top sc x h => by unfold okE at h; rw [Bool.and_eq_true] at h; exact ⟨tst1 h.1, by unfold okE; rw [Bool.and_eq_true]; exact ⟨tst0, h.2⟩⟩) (fun top sc x h => by unfold okE at h; rw [Bool.and_eq_true] at h; unfold okE; rw [Bool.and_eq_true]; exact ⟨tst0, h.2⟩)
  | .slc a lo hi => good_of f (fun top sc X x c h => by
      unfold okE at h; rw [Bool.and_eq_true] at h
      obtain ⟨_, h⟩ := h
      split at h
      · simp only [Bool.and_eq_true] at h
        rw [ev]
        exact se_slc (c.rel f) ((snd f a).v _ _ _ _ c h.1.1) (sndO f lo c h.1.2) (sndO f hi c h.2)
      · cases h)
      (fun top sc x h => by unfold okE at h; rw [Bool.and_eq_true] at h; exact ⟨tst1 h.1, by unfold okE; rw [Bool.and_eq_true]; exact ⟨tst0, h.2⟩⟩) (fun top sc x h => by unfold okE at h; rw [Bool.and_eq_true] at h; unfold okE; rw [Bool.and_eq_true]; exact ⟨tst0, h.2⟩)
  | .rev a => good_of f (fun top sc X x c h => by
      unfold okE at h; rw [Bool.and_eq_true] at h
      obtain ⟨_, h⟩ := h
      split at h
      · rw [ev]
        exact se_rev ((snd f a).v _ _ _ _ c h)
      · cases h)
      (fun top sc x h => by unfold okE at h; rw [Bool.and_eq_true] at h; exact ⟨tst1 h.1, by unfold okE; rw [Bool.and_eq_true]; exact ⟨tst0, h.2⟩⟩) (fun top sc x h => by unfold okE at h; rw [Bool.and_eq_true] at h; unfold okE; rw [Bool.and_eq_true]; exact ⟨tst0, h.2⟩)
  | .prim p a => good_of f (fun top sc X x c h => by
      unfold okE at h; rw [Bool.and_eq_true] at h
      obtain ⟨_, h⟩ := h
      split at h
      · simp only [Bool.and_eq_true, decide_eq_true_eq] at h
        obtain ⟨⟨⟨⟨h1, h2⟩, h3⟩, h4⟩, h5⟩ := h
        subst h1
        rw [ev]
        exact prim_rule f c h2 h3 ((snd f a).v _ _ _ _ c h4) h5
      · cases h)
      (fun top sc x h => by unfold okE at h; rw [Bool.and_eq_true] at h; exact ⟨tst1 h.1, by unfold okE; rw [Bool.and_eq_true]; exact ⟨tst0, h.2⟩⟩) (fun top sc x h => by unfold okE at h; rw [Bool.and_eq_true] at h; unfold okE; rw [Bool.and_eq_true]; exact ⟨tst0, h.2⟩)
  | .prim2 p a b => good_of f (fun top sc X x c h => by
      unfold okE at h; rw [Bool.and_eq_true] at h
      obtain ⟨_, h⟩ := h
      split at h
      · simp only [Bool.and_eq_true, decide_eq_true_eq] at h
        obtain ⟨⟨⟨⟨⟨⟨h1, h2⟩, h3⟩, h4⟩, h5⟩, h6⟩, h7⟩ := h
        subst h1 h2
        rw [ev]
        exact se_max2 c.calm (c.gl _ h3) (c.bm f (by decide)) ((snd f a).v _ _ _ _ c h4) ((snd f b).v _ _ _ _ c h5) h6 h7
      · cases h)
      (fun top sc x h => by unfold okE at h; rw [Bool.and_eq_true] at h; exact ⟨tst1 h.1, by unfold okE; rw [Bool.and_eq_true]; exact ⟨tst0, h.2⟩⟩) (fun top sc x h => by unfold okE at h; rw [Bool.and_eq_true] at h; unfold okE; rw [Bool.and_eq_true]; exact ⟨tst0, h.2⟩)
  | .join a b => good_of f (fun top sc X x c h => by
      unfold okE at h; rw [Bool.and_eq_true] at h
      obtain ⟨_, h⟩ := h
      split at h
      · simp only [Bool.and_eq_true, decide_eq_true_eq] at h
        obtain ⟨⟨⟨⟨⟨h1, h2⟩, h3⟩, h4⟩, h5⟩, h6⟩ := h
        subst h1
        rw [ev]
        exact se_join (c.rel f) ((snd f a).v _ _ _ _ c h2) ((snd f b).v _ _ _ _ c h3) h4 (abase_of h5) h6
      · cases h)
      (fun top sc x h => by unfold okE at h; rw [Bool.and_eq_true] at h; exact ⟨tst1 h.1, by unfold okE; rw [Bool.and_eq_true]; exact ⟨tst0, h.2⟩⟩) (fun top sc x h => by unfold okE at h; rw [Bool.and_eq_true] at h; unfold okE; rw [Bool.and_eq_true]; exact ⟨tst0, h.2⟩)
  | .isin a ts => good_of f (fun top sc X x c h => by
      unfold okE at h; rw [Bool.and_eq_true] at h
      obtain ⟨_, h⟩ := h
      split at h
      · simp only [Bool.and_eq_true, decide_eq_true_eq] at h
        obtain ⟨⟨⟨⟨⟨h1, h2⟩, h3⟩, h4⟩, h5⟩, h6⟩ := h
        subst h1
        obtain ⟨t1, t2, us, t3, t4, t5⟩ := tys_of c f h5
        rw [ev]
        exact se_isinT f.kit t1 (c.rel f) (c.gl _ h2) (c.bm f (by decide)) ((snd f a).v _ _ _ _ c h3) h4 t3 t2 t4 (by rw [t5]; exact h6)
      · simp only [Bool.and_eq_true, decide_eq_true_eq] at h
        obtain ⟨⟨⟨⟨h1, h2⟩, h3⟩, h4⟩, h5⟩ := h
        subst h1
        match ts, h5 with
        | [], h5 => cases h5
        | [t], h5 =>
          rw [tysB, Bool.and_eq_true] at h5
          obtain ⟨t1, t2, u, t3, t4⟩ := ty_of c f h5.1
          rw [ev]
          exact se_isin1 f.kit t1 (c.rel f) (c.gl _ h2) (c.bm f (by decide)) ((snd f a).v _ _ _ _ c h3) h4 t3 t4 t2
        | _ :: _ :: _, h5 =>
          rw [tysB, Bool.and_eq_true] at h5
          cases h5.2
      · cases h)
      (fun top sc x h => by unfold okE at h; rw [Bool.and_eq_true] at h; exact ⟨tst1 h.1, by unfold okE; rw [Bool.and_eq_true]; exact ⟨tst0, h.2⟩⟩) (fun top sc x h => by unfold okE at h; rw [Bool.and_eq_true] at h; unfold okE; rw [Bool.and_eq_true]; exact ⟨tst0, h.2⟩)
  | .call fi as => good_of f (fun top sc X x c h => by
      unfold okE at h; rw [Bool.and_eq_true] at h
      obtain ⟨_, h⟩ := h
      split at h
      · simp only [Bool.and_eq_true] at h
        obtain ⟨⟨⟨⟨h1, h2⟩, h3⟩, h4⟩, h5⟩ := h
        obtain ⟨fa, hF, hm, hk⟩ := f.fn _ _ _ h1
        obtain ⟨fd, ps, Fn, hb⟩ := c.fn hF
        rw [ev]
        have h6 := all_mem h5
        exact se_call Fn (c.room.mono (by omega)) (c.gl _ h2) (by rw [c.hmg]; exact hm) (by rw [c.hK]; exact hk) hb (f.never X) (sndA f as c h4) (fun e ds e' q => evA_length as e ds e' q) (h6 _ (List.Mem.head _)) (fun y hy => h6 y (List.Mem.tail _ hy)) (nm_of h3).1
      · cases h)
      (fun top sc x h => by unfold okE at h; rw [Bool.and_eq_true] at h; exact ⟨tst1 h.1, by unfold okE; rw [Bool.and_eq_true]; exact ⟨tst0, h.2⟩⟩) (fun top sc x h => by unfold okE at h; rw [Bool.and_eq_true] at h; unfold okE; rw [Bool.and_eq_true]; exact ⟨tst0, h.2⟩)
  | .callL fi as => good_of f (fun top sc X x c h => by
      unfold okE at h; rw [Bool.and_eq_true] at h
      obtain ⟨_, h⟩ := h
      split at h
      · simp only [Bool.and_eq_true] at h
        obtain ⟨⟨⟨⟨h1, h2⟩, h3⟩, h4⟩, h5⟩ := h
        obtain ⟨fa, hF, hm, hk⟩ := f.fn _ _ _ h1
        obtain ⟨fd, ps, Fn, hb⟩ := c.fn hF
        rw [ev]
        have h6 := all_mem h5
        obtain ⟨pa, hl⟩ := sndL f as c h4
        exact se_callL Fn (c.room.mono (by omega)) (c.gl _ h2) (by rw [c.hmg]; exact hm) (by rw [c.hK]; exact hk) hb (f.never X) pa hl (h6 _ (List.Mem.head _)) (fun y hy => h6 y (List.Mem.tail _ hy)) (nm_of h3).1
      · cases h)
      (fun top sc x h => by unfold okE at h; rw [Bool.and_eq_true] at h; exact ⟨tst1 h.1, by unfold okE; rw [Bool.and_eq_true]; exact ⟨tst0, h.2⟩⟩) (fun top sc x h => by unfold okE at h; rw [Bool.and_eq_true] at h; unfold okE; rw [Bool.and_eq_true]; exact ⟨tst0, h.2⟩)
  | .newa i => by
    have z : ∀ md top sc x, okE T N md top sc (.newa i) x = true → False := fun md top sc x h => by unfold okE at h; cases h
    exact ⟨fun top sc X x c h => (z _ _ _ _ h).elim, fun top sc X x c h => (z _ _ _ _ h).elim, fun top sc X op x y xs p c h => (z _ _ _ _ h).elim, fun top sc X x tg c h => (z _ _ _ _ h).elim⟩
  | .ref i => by
    have z : ∀ md top sc x, okE T N md top sc (.ref i) x = true → False := fun md top sc x h => by unfold okE at h; cases h
    exact ⟨fun top sc X x c h => (z _ _ _ _ h).elim, fun top sc X x c h => (z _ _ _ _ h).elim, fun top sc X op x y xs p c h => (z _ _ _ _ h).elim, fun top sc X x tg c h => (z _ _ _ _ h).elim⟩
  | .pop i => good_of f (fun top sc X x c h => by
      unfold okE at h; rw [Bool.and_eq_true] at h
      obtain ⟨_, h⟩ := h
      split at h
      · simp only [Bool.and_eq_true, decide_eq_true_eq] at h
        obtain ⟨⟨h1, h2⟩, h3⟩ := h
        subst h1
        obtain ⟨n, p, e1, k1, k2, k3, k4⟩ := slot_of c h2
        cases e1
        exact se_pop k1 k2 k3 k4 h3
      · cases h)
      (fun top sc x h => by unfold okE at h; rw [Bool.and_eq_true] at h; exact ⟨tst1 h.1, by unfold okE; rw [Bool.and_eq_true]; exact ⟨tst0, h.2⟩⟩) (fun top sc x h => by unfold okE at h; rw [Bool.and_eq_true] at h; unfold okE; rw [Bool.and_eq_true]; exact ⟨tst0, h.2⟩)
  | .attr a fl => good_of f (fun top sc X x c h => by
      unfold okE at h; rw [Bool.and_eq_true] at h
      obtain ⟨_, h⟩ := h
      split at h
      · simp only [Bool.and_eq_true] at h
        obtain ⟨⟨h1, h2⟩, h3⟩ := h
        obtain ⟨k1, k2⟩ := f.fld _ _ h1
        rw [ev]
        exact se_attr f.attr k2 k1 (c.rel f) ((snd f a).v _ _ _ _ c h2) h3
      · cases h)
      (fun top sc x h => by unfold okE at h; rw [Bool.and_eq_true] at h; exact ⟨tst1 h.1, by unfold okE; rw [Bool.and_eq_true]; exact ⟨tst0, h.2⟩⟩) (fun top sc x h => by unfold okE at h; rw [Bool.and_eq_true] at h; unfold okE; rw [Bool.and_eq_true]; exact ⟨tst0, h.2⟩)
  | .prop a m => good_of f (fun top sc X x c h => by
      unfold okE at h; rw [Bool.and_eq_true] at h
      obtain ⟨_, h⟩ := h
      split at h
      · simp only [Bool.and_eq_true] at h
        obtain ⟨⟨h1, h2⟩, h3⟩ := h
        obtain ⟨c0, fi, pr, fa, k1, k2, k3, k4⟩ := f.prop _ _ h1
        obtain ⟨fd, ps, Fn, hb⟩ := c.fn k4
        rw [ev]
        exact se_prop k1 (by rw [c.hK]; exact k2) (by rw [c.hK]; exact k3) Fn c.room hb (f.never _) ((snd f a).v _ _ _ _ c h2) h3
      · cases h)
      (fun top sc x h => by unfold okE at h; rw [Bool.and_eq_true] at h; exact ⟨tst1 h.1, by unfold okE; rw [Bool.and_eq_true]; exact ⟨tst0, h.2⟩⟩) (fun top sc x h => by unfold okE at h; rw [Bool.and_eq_true] at h; unfold okE; rw [Bool.and_eq_true]; exact ⟨tst0, h.2⟩)
  | .comp y src none elt => good_of f (fun top sc X x c h => by
      unfold okE at h; rw [Bool.and_eq_true] at h
      obtain ⟨_, h⟩ := h
      split at h
      · rename_i xe tn tp xi ifs kk scope pos _
        simp only [Bool.and_eq_true, decide_eq_true_eq] at h
        obtain ⟨⟨⟨⟨⟨⟨⟨⟨h0, h1⟩, h2⟩, h3⟩, h4⟩, h5⟩, h6⟩, h7⟩, h8⟩ := h
        subst h0 h1
        rw [ev]
        have hif : ifs = [] := by
          unfold okC at h7
          split at h7
          · rfl
          · cases h7
        subst hif
        exact lcE c turnB_elt h2 h3 h4 ((snd f src).i _ _ _ _ _ c h5) h6 (fun X' c' => pts_nil) (fun X' c' => (snd f elt).v _ _ _ _ c' h8)
      · cases h)
      (fun top sc x h => by unfold okE at h; rw [Bool.and_eq_true] at h; exact ⟨tst1 h.1, by unfold okE; rw [Bool.and_eq_true]; exact ⟨tst0, h.2⟩⟩) (fun top sc x h => by unfold okE at h; rw [Bool.and_eq_true] at h; unfold okE; rw [Bool.and_eq_true]; exact ⟨tst0, h.2⟩)
  | .comp y src (some cnd) elt => good_of f (fun top sc X x c h => by
      unfold okE at h; rw [Bool.and_eq_true] at h
      obtain ⟨_, h⟩ := h
      split at h
      · rename_i xe tn tp xi ifs kk scope pos _
        simp only [Bool.and_eq_true, decide_eq_true_eq] at h
        obtain ⟨⟨⟨⟨⟨⟨⟨⟨h0, h1⟩, h2⟩, h3⟩, h4⟩, h5⟩, h6⟩, h7⟩, h8⟩ := h
        subst h0 h1
        rw [ev]
        unfold okC at h7
        split at h7
        · exact lcE c turnB_cnd h2 h3 h4 ((snd f src).i _ _ _ _ _ c h5) h6 (fun X' c' => pts_one ((snd f cnd).t _ _ _ _ c' h7)) (fun X' c' => (snd f elt).v _ _ _ _ c' h8)
        · cases h7
      · cases h)
      (fun top sc x h => by unfold okE at h; rw [Bool.and_eq_true] at h; exact ⟨tst1 h.1, by unfold okE; rw [Bool.and_eq_true]; exact ⟨tst0, h.2⟩⟩) (fun top sc x h => by unfold okE at h; rw [Bool.and_eq_true] at h; unfold okE; rw [Bool.and_eq_true]; exact ⟨tst0, h.2⟩)
  | .mk cc as => good_of f (fun top sc X x c h => by
      unfold okE at h; rw [Bool.and_eq_true] at h
      obtain ⟨_, h⟩ := h
      split at h
      · simp only [Bool.and_eq_true] at h
        obtain ⟨⟨⟨⟨h1, h2⟩, h3⟩, h4⟩, h5⟩ := h
        obtain ⟨fa, fi, k1, k2, k3, hF, hm⟩ := f.mks _ _ _ h1
        obtain ⟨fd, ps, Fn, hb⟩ := c.fn hF
        rw [ev]
        have h6 := all_mem h5
        exact se_mk k1 k2 (by rw [c.hK]; exact k3) Fn c.room (c.gl _ h2) (by rw [c.hmg]; exact hm) hb (f.never X) (sndA f as c h4) (fun e ds e' q => evA_length as e ds e' q) (h6 _ (List.Mem.head _)) (fun y hy => h6 y (List.Mem.tail _ hy)) (nm_of h3).1
      · cases h)
      (fun top sc x h => by unfold okE at h; rw [Bool.and_eq_true] at h; exact ⟨tst1 h.1, by unfold okE; rw [Bool.and_eq_true]; exact ⟨tst0, h.2⟩⟩) (fun top sc x h => by unfold okE at h; rw [Bool.and_eq_true] at h; unfold okE; rw [Bool.and_eq_true]; exact ⟨tst0, h.2⟩)
  | .iter a => by
    have z : ∀ md top sc x, okE T N md top sc (.iter a) x = true → False := fun md top sc x h => by unfold okE at h; cases h
    exact ⟨fun top sc X x c h => (z _ _ _ _ h).elim, fun top sc X x c h => (z _ _ _ _ h).elim, fun top sc X op x y xs p c h => (z _ _ _ _ h).elim, fun top sc X x tg c h => (z _ _ _ _ h).elim⟩
  | .rng a b => by
    have z : ∀ md top sc x, md ≠ 2 → okE T N md top sc (.rng a b) x = true → False := fun md top sc x n h => by
      unfold okE at h; rw [Bool.and_eq_true] at h
      exact n (of_decide_eq_true h.1)
    refine ⟨fun top sc X x c h => (z _ _ _ _ (by decide) h).elim, fun top sc X x c h => (z _ _ _ _ (by decide) h).elim, fun top sc X op x y xs p c h => (z _ _ _ _ (by decide) h).elim, fun top sc X x tg c h => ?_⟩
    unfold okE at h; rw [Bool.and_eq_true] at h
    obtain ⟨_, h⟩ := h
    split at h
    · simp only [Bool.and_eq_true, decide_eq_true_eq] at h
      obtain ⟨⟨⟨⟨⟨h1, h2⟩, h3⟩, h4⟩, h5⟩, h6⟩ := h
      subst h1
      rw [ev]
      exact pi_rng2 (c.gl _ h2) (c.bm f (by decide)) ((snd f a).v _ _ _ _ c h3) ((snd f b).v _ _ _ _ c h4) h5 h6
    · simp only [Bool.and_eq_true, decide_eq_true_eq] at h
      obtain ⟨⟨⟨⟨h1, h2⟩, h3⟩, h4⟩, h5⟩ := h
      subst h1
      have ez : ev I P a = ret (.d (.int 0)) := by
        unfold isZ at h3
        split at h3
        · rw [ev]
        · cases h3
      rw [ev, ez]
      exact pi_rng1 (c.gl _ h2) (c.bm f (by decide)) ((snd f b).v _ _ _ _ c h4) h5
    · cases h
theorem snds (f : Facts Z G T I P k) : ∀ (es : List E) {top : Bool} {sc : Scope} {X : Cx} {xs : List Expr}, CxOk Z G N k top sc X → okEs T N top sc es xs = true → PA X xs (RA G W0 (evs I P es)) ∧ es.length = xs.length
  | [], top, sc, X, xs, c, h => by
    unfold okEs at h
    split at h
    · rw [evs]; exact ⟨sa_nil, rfl⟩
    · cases h
  | e :: es, top, sc, X, xs, c, h => by
    unfold okEs at h
    split at h
    · rw [Bool.and_eq_true, Bool.and_eq_true] at h
      obtain ⟨h1, h2⟩ := snds f es c h.2
      rw [evs]
      exact ⟨sa_cons ((snd f e).v _ _ _ _ c h.1.1) h1 (notStar_of h.1.2), by simp [h2]⟩
    · cases h
theorem sndA (f : Facts Z G T I P k) : ∀ (es : List E) {top : Bool} {sc : Scope} {X : Cx} {xs : List Expr}, CxOk Z G N k top sc X → okA T N top sc es xs = true → PA X xs (RAV G W0 (evA I P es))
  | [], top, sc, X, xs, c, h => by
    unfold okA at h
    split at h
    · rw [evA]; exact sv_nil
    · cases h
  | .ref i :: es, top, sc, X, xs, c, h => by
    unfold okA at h
    split at h
    · rw [Bool.and_eq_true] at h
      obtain ⟨n, p, rfl, h1, h2, h3, h4⟩ := slot_of c h.1
      rw [evA]
      exact sv_ref h1 h2 h3 h4 (sndA f es c h.2)
    · cases h
  | e :: es, top, sc, X, xs, c, h => by
    by_cases hr : ∃ i, e = .ref i
    · obtain ⟨i, rfl⟩ := hr
      unfold okA at h
      split at h
      · rw [Bool.and_eq_true] at h
        obtain ⟨n, p, rfl, h1, h2, h3, h4⟩ := slot_of c h.1
        rw [evA]
        exact sv_ref h1 h2 h3 h4 (sndA f es c h.2)
      · cases h
    · have hr' : ∀ i, e ≠ .ref i := fun i q => hr ⟨i, q⟩
      rw [okA_cons hr'] at h
      rw [evA_cons hr']
      split at h
      · rw [Bool.and_eq_true, Bool.and_eq_true] at h
        exact sv_cons ((snd f e).v _ _ _ _ c h.1.1) (sndA f es c h.2) h.1.2
      · cases h
theorem sndL (f : Facts Z G T I P k) : ∀ (es : List E) {top : Bool} {sc : Scope} {X : Cx} {xs : List Expr}, CxOk Z G N k top sc X → okL T N top sc es xs = true → PA X xs (RAVL G W0 (evL I P es)) ∧ ∀ e q e', evL I P es e = .ok q e' → q.1.length + 1 = es.length
  | [], top, sc, X, xs, c, h => by
    unfold okL at h; cases h
  | .newa e :: es, top, sc, X, xs, c, h => by
    unfold okL at h
    split at h
    · rw [Bool.and_eq_true, Bool.and_eq_true] at h
      have he : es = [] := by simpa using h.2
      subst he
      rw [evL]
      refine ⟨sl_new ((snd f e).v _ _ _ _ c h.1.1) h.1.2, fun e1 q e' hq => ?_⟩
      obtain ⟨w, e2, _, hq⟩ := ok_bnd hq
      cases w with
      | d _ => cases hq
      | at_ _ => cases hq
      | new cc => cases hq; rfl
    · cases h
  | .ref i :: es, top, sc, X, xs, c, h => by
    unfold okL at h
    split at h
    · rw [Bool.and_eq_true] at h
      obtain ⟨n, p, rfl, h1, h2, h3, h4⟩ := slot_of c h.1
      obtain ⟨k1, k2⟩ := sndL f es c h.2
      rw [evL]
      refine ⟨sl_ref h1 h2 h3 h4 k1, fun e1 q e' hq => ?_⟩
      have hq : (match e1.get i with
        | some (.own _) => (bnd (evL I P es) fun q => ret (.r i :: q.1, q.2)) e1
        | _ => .stuck) = Res.ok q e' := hq
      split at hq
      · obtain ⟨q1, e2, hq1, hq2⟩ := ok_bnd hq
        cases hq2
        have := k2 _ _ _ hq1
        simp [this]
      · cases hq
    · cases h
  | e :: es, top, sc, X, xs, c, h => by
    by_cases hr : ∃ i, e = .ref i
    · obtain ⟨i, rfl⟩ := hr
      unfold okL at h
      split at h
      · rw [Bool.and_eq_true] at h
        obtain ⟨n, p, rfl, h1, h2, h3, h4⟩ := slot_of c h.1
        obtain ⟨k1, k2⟩ := sndL f es c h.2
        rw [evL]
        refine ⟨sl_ref h1 h2 h3 h4 k1, fun e1 q e' hq => ?_⟩
        have hq : (match e1.get i with
          | some (.own _) => (bnd (evL I P es) fun q => ret (.r i :: q.1, q.2)) e1
          | _ => .stuck) = Res.ok q e' := hq
        split at hq
        · obtain ⟨q1, e2, hq1, hq2⟩ := ok_bnd hq
          cases hq2
          have := k2 _ _ _ hq1
          simp [this]
        · cases hq
      · cases h
    · by_cases hn : ∃ i, e = .newa i
      · obtain ⟨e, rfl⟩ := hn
        unfold okL at h
        split at h
        · rw [Bool.and_eq_true, Bool.and_eq_true] at h
          have he : es = [] := by simpa using h.2
          subst he
          rw [evL]
          refine ⟨sl_new ((snd f e).v _ _ _ _ c h.1.1) h.1.2, fun e1 q e' hq => ?_⟩
          obtain ⟨w, e2, _, hq⟩ := ok_bnd hq
          cases w with
          | d _ => cases hq
          | at_ _ => cases hq
          | new cc => cases hq; rfl
        · cases h
      · have hr' : ∀ i, e ≠ .ref i := fun i q => hr ⟨i, q⟩
        have hn' : ∀ i, e ≠ .newa i := fun i q => hn ⟨i, q⟩
        rw [okL_cons hr' hn'] at h
        rw [evL_cons hr' hn']
        split at h
        · rw [Bool.and_eq_true, Bool.and_eq_true] at h
          obtain ⟨k1, k2⟩ := sndL f es c h.2
          refine ⟨sl_cons ((snd f e).v _ _ _ _ c h.1.1) k1 h.1.2, fun e1 q e' hq => ?_⟩
          obtain ⟨w, e2, _, hq⟩ := ok_bnd hq
          obtain ⟨d, e3, _, hq⟩ := ok_bnd hq
          obtain ⟨q1, e4, hq1, hq2⟩ := ok_bnd hq
          cases hq2
          have := k2 _ _ _ hq1
          simp [this]
        · cases h
theorem sndO (f : Facts Z G T I P k) : ∀ (o : Option E) {top : Bool} {sc : Scope} {X : Cx} {x : Option Expr}, CxOk Z G N k top sc X → okO T N top sc o x = true → PO X x (RO G W0 (evO I P o))
  | none, top, sc, X, x, c, h => by
    unfold okO at h
    split at h
    · rw [evO]; exact so_none
    · cases h
  | some e, top, sc, X, x, c, h => by
    unfold okO at h
    split at h
    · rw [evO]; exact so_some ((snd f e).v _ _ _ _ c h)
    · cases h
end
end
end MV
set_option maxHeartbeats 4000000
/-! MVFn: statements are checked; a def's body keeps its promise. -/
namespace MV
open PySem PySem.Spec L2

/-- is the value used where it is made (a comprehension that is stored on one line)? -/
def usedB (sc : Scope) (n : Str) (p : Pos) (line : Nat) : Expr → Bool
  | .ListComp a b s q => lclB sc n && p.line == q.line && !(s.names.any fun (m, k) => m == n && (k == .local || k == .cell))
  | _ => false
def lcB : Expr → Bool
  | .ListComp _ _ _ _ => true
  | _ => false
def fnB (sc : Scope) : Bool := match sc.kind with | .function => true | _ => false
def tgsB (N : List Str) (sc : Scope) (br : List Nat) : List Nat → List Expr → Bool
  | [], [] => true
  | i :: is, .Name n _ :: xs => decide (N[i]? = some n) && locB sc n && !br.contains i && tgsB N sc br is xs
  | _, _ => false
section
variable (T : Tab) (N : List Str) (br : List Nat) (sc : Scope)
def tgB (tg : List Nat) (isT : Bool) (x : Expr) : Bool := if isT = true then (match x with
    | .Tuple xs _ _ => tgsB N sc br tg xs
    | _ => false) else tgsB N sc br tg [x] && decide (tg.length = 1)
def tgI (tg : List Nat) : Nat := match tg with
  | [i] => i
  | _ => 0
mutual
def okS : S → Stmt → Bool
  | .expr e, st => match st with
    | .Expr x _ => okE T N 0 true sc e x && swapB x
    | _ => false
  | .asg i e, st => match st with
    | .Assign [.Name n p] x q => decide (N[i]? = some n) && locB sc n && !br.contains i && okE T N 0 true sc e x && (swapB x || (lcB x && !usedB sc n p q.line x) || (lcB x && usedB sc n p q.line x))
    | _ => false
  | .asgT is e, st => match st with
    | .Assign [.Tuple xs _ _] x _ => tgsB N sc br is xs && okE T N 0 true sc e x && swapB x && dispB x
    | _ => false
  | .append i e, st => match st with
    | .Expr (.Call (.Attribute (.Name n p) an ap) [x] [] cp) _ => decide (an = "append") && slB N sc i (.Name n p) && okE T N 0 true sc e x && notStar x && lineB ap cp
    | _ => false
  | .insert i k e, st => match st with
    | .Expr (.Call (.Attribute (.Name n p) an ap) [xk, x] [] cp) _ => decide (an = "insert") && slB N sc i (.Name n p) && okE T N 0 true sc k xk && okE T N 0 true sc e x && notStar xk && notStar x && lineB ap cp
    | _ => false
  | .setIx i k e, st => match st with
    | .Assign [.Subscript (.Name n p) xk _] x _ => slB N sc i (.Name n p) && okE T N 0 true sc k xk && okE T N 0 true sc e x && plainI xk
    | _ => false
  | .setFld i f e, st => match st with
    | .Assign [.Attribute (.Name n p) an _] x _ => slB N sc i (.Name n p) && T.fld.contains (an, f) && okE T N 0 true sc e x && swapB x
    | _ => false
  | .ret e, st => match st with
    | .Return (some x) _ => okE T N 0 true sc e x
    | _ => false
  | .ite c a b, st => match st with
    | .If xc xa xb _ => okE T N 1 true sc c xc && okSs a xa && okSs b xb
    | _ => false
  | .for_ tg isT src body, st => match st with
    | .For xt xi xb [] _ => tgB N br sc tg isT xt && okE T N 2 true sc src xi && okSs body xb && setE xi
    | _ => false
  | .while_ c body, st => match st with
    | .While xc xb [] _ => okE T N 1 true sc c xc && okSs body xb
    | _ => false
  | .brk, st => match st with
    | .Break _ => true
    | _ => false
  | .cont, st => match st with
    | .Continue _ => true
    | _ => false
  | .pass, st => match st with
    | .Pass _ => true
    | _ => false
  | .bad, _ => true
  | _, _ => false
def okSs : List S → List Stmt → Bool
  | [], xs => match xs with
    | [] => true
    | _ => false
  | s :: ss, xs => match xs with
    | x :: xs => okS s x && okSs ss xs
    | [] => false
end
end

structure StOk (Z : Pg) (G : Gx) (N : List Str) (k : Nat) (sc : Scope) (X : Cx) : Prop where
  cx : CxOk Z G N k true sc X
  own : PassesOwn (model X.prog X.w) X.A X.env X.xe
  bk : X.env.blockKind = .function

section
variable {Z : Pg} {G : Gx} {T : Tab} {I : Info} {P : Phi} {k fuel : Nat} {N : List Str} {br : List Nat} {sc : Scope} {X : Cx}

theorem asgLc {i : Nat} {n : Str} {p pos q : Pos} {e : E} {xe : Expr} {gens : List Comprehension} {scope : Scope} (f : Facts Z G T I P k) (c : StOk Z G N k sc X) (hn : N[i]? = some n) (hl : locB sc n = true) (hb : i ∉ br) (h : okE T N 0 true sc e (.ListComp xe gens scope pos) = true) :
    PS X (.Assign [.Name n p] (.ListComp xe gens scope pos) q) (RS G false br (asgM i (ev I P e))) := by
  have nd : X.N.Nodup := by rw [c.cx.hN]; exact c.cx.nd
  have hn' : X.N[i]? = some n := by rw [c.cx.hN]; exact hn
  obtain ⟨l1, l2⟩ := c.cx.loc n hl
  have hsw : swapsWith (.ListComp xe gens scope pos) (some (.Name n p)) q.line X.env = pure (X.env.blockKind == .function && X.env.kindOf n == some .local && p.line == pos.line && !(scope.names.any fun (m, k) => m == n && (k == .local || k == .cell))) := rfl
  have hkind : (X.env.blockKind == ScopeKind.function) = true := by rw [c.bk]; decide
  cases hu : (X.env.blockKind == .function && X.env.kindOf n == some .local && p.line == pos.line && !(scope.names.any fun (m, k) => m == n && (k == .local || k == .cell))) with
  | false =>
    exact PS.imp (ps_set nd hn' l1 ((snd f e).v _ _ _ _ c.cx h) (by rw [hsw, hu]) l2) fun D σ H r => asg_imp hb r
  | true =>
    have hloc : X.env.scope.names.lookup n = some .local := by
      simp only [Bool.and_eq_true] at hu
      have := hu.1.1.2
      exact eq_of_beq this
    -- what e must be
    cases e with
    | comp y src cnd elt =>
      unfold okE at h
      rw [Bool.and_eq_true] at h
      obtain ⟨_, h⟩ := h
      split at h
      · rename_i xe' tn tp xi ifs kk scope' pos' q0
        cases q0
        simp only [Bool.and_eq_true, decide_eq_true_eq] at h
        obtain ⟨⟨⟨⟨⟨⟨⟨⟨h0, h1⟩, h2⟩, h3⟩, h4⟩, h5⟩, h6⟩, h7⟩, h8⟩ := h
        subst h1
        have hy : X.N[y]? = some tn := by rw [c.cx.hN]; exact h2
        have fin : ∀ {tt : TT} {te : TE} {body : M (Option D)}, TurnB G body tt te → (∀ X', CxOk Z G N k false scope X' → PTs X' ifs tt) → (∀ X', CxOk Z G N k false scope X' → PE X' xe te) →
            PS X (.Assign [.Name n p] (.ListComp xe [⟨.Name tn tp, xi, ifs, 0⟩] scope pos) q) (RS G false br (asgM i (compM y (srcM I P (ev I P src)) body))) := fun {tt te body} hT ht he => by
          refine PS.imp (ps_setLc (own := [(tn, y)]) c.cx.calm nd hn' hloc (by rw [hsw, hu]) ((snd f src).i _ _ _ _ _ c.cx h5) (blkOk_by (by rw [c.cx.hN, c.cx.scE rfl]; exact h3)) (fun s H C cl fp => ?_) (fun s H C cl fp => ht _ c.cx.blk) (fun s H C cl fp => he _ c.cx.blk) (folded_of h6)) fun D σ H r => lc_imp hT (asg_imp hb r)
          obtain ⟨l1, l2⟩ := (CxOk.blk c.cx (s := s) (H := H) (C := C) (cl := cl) (fp := fp)).loc tn h4
          exact pg_name nd hy l1 l2
        cases cnd with
        | none =>
          have hif : ifs = [] := by
            unfold okC at h7
            split at h7
            · rfl
            · cases h7
          subst hif
          rw [ev]
          exact fin turnB_elt (fun X' c' => pts_nil) (fun X' c' => (snd f elt).v _ _ _ _ c' h8)
        | some cnd =>
          unfold okC at h7
          split at h7
          · rw [ev]
            exact fin turnB_cnd (fun X' c' => pts_one ((snd f cnd).t _ _ _ _ c' h7)) (fun X' c' => (snd f elt).v _ _ _ _ c' h8)
          · cases h7
      · cases h
    | var i => unfold okE at h; rw [Bool.and_eq_true] at h; exact absurd h.2 Bool.false_ne_true
    | cst d => 
      unfold okE at h; rw [Bool.and_eq_true] at h
      have h2 := h.2
      unfold litOk at h2
      cases d <;> exact absurd h2 Bool.false_ne_true
    | not a => unfold okE at h; exact absurd h Bool.false_ne_true
    | and a b => unfold okE at h; exact absurd h Bool.false_ne_true
    | or a b => unfold okE at h; exact absurd h Bool.false_ne_true
    | cmp o a b => unfold okE at h; exact absurd h Bool.false_ne_true
    | chain o o2 a b c => unfold okE at h; exact absurd h Bool.false_ne_true
    | isNone a => unfold okE at h; exact absurd h Bool.false_ne_true
    | notNone a => unfold okE at h; exact absurd h Bool.false_ne_true
    | ref a => unfold okE at h; exact absurd h Bool.false_ne_true
    | newa a => unfold okE at h; exact absurd h Bool.false_ne_true
    | iter a => unfold okE at h; exact absurd h Bool.false_ne_true
    | _ => unfold okE at h; rw [Bool.and_eq_true] at h; exact absurd h.2 Bool.false_ne_true
theorem tgs_of (c : CxOk Z G N k true sc X) : ∀ {is : List Nat} {xs : List Expr}, tgsB N sc br is xs = true → Tgs X xs is ∧ ∀ i ∈ is, i ∉ br
  | [], [], _ => ⟨.nil, fun _ h => (by cases h)⟩
  | [], _ :: _, h => by unfold tgsB at h; cases h
  | _ :: _, [], h => by unfold tgsB at h; cases h
  | i :: is, x :: xs, h => by
    unfold tgsB at h
    split at h
    · rename_i q1 q2
      cases q1
    · rename_i q1 q2
      cases q1
      cases q2
      simp only [Bool.and_eq_true, decide_eq_true_eq, Bool.not_eq_true'] at h
      obtain ⟨⟨⟨h1, h2⟩, h3⟩, h4⟩ := h
      obtain ⟨l1, l2⟩ := c.loc _ h2
      obtain ⟨t1, t2⟩ := tgs_of c h4
      refine ⟨.cons (by rw [c.hN]; exact h1) l1 l2 t1, fun j hj => ?_⟩
      rcases List.mem_cons.mp hj with rfl | hj
      · intro z; rw [List.contains_eq_mem, decide_eq_false_iff_not] at h3; exact h3 z
      · exact t2 j hj
    · cases h
mutual
theorem sndS (f : Facts Z G T I P k) (c : StOk Z G N k sc X) : ∀ (s : S) (st : Stmt), okS T N br sc s st = true → PS X st (RS G false br (exec I P br fuel s))
  | .expr e, st, h => by
    unfold okS at h
    split at h
    · rw [Bool.and_eq_true] at h
      rw [exec]
      exact ss_expr ((snd f e).v _ _ _ _ c.cx h.1) h.2
    · cases h
  | .asg i e, st, h => by
    unfold okS at h
    split at h
    · rename_i n p x q
      simp only [Bool.and_eq_true, decide_eq_true_eq, Bool.not_eq_true', Bool.or_eq_true] at h
      obtain ⟨⟨⟨⟨h1, h2⟩, h3⟩, h4⟩, h5⟩ := h
      have hb : i ∉ br := fun z => by rw [List.contains_eq_mem, decide_eq_false_iff_not] at h3; exact h3 z
      obtain ⟨l1, l2⟩ := c.cx.loc n h2
      rw [exec]
      have lc : lcB x = true → PS X (.Assign [.Name n p] x q) (RS G false br (asgM i (ev I P e))) := fun hl => by
        unfold lcB at hl
        split at hl
        · exact asgLc f c h1 h2 hb h4
        · cases hl
      rcases h5 with (h5 | h5) | h5
      · exact ss_asg (by rw [c.cx.hN]; exact c.cx.nd) (by rw [c.cx.hN]; exact h1) l1 l2 hb ((snd f e).v _ _ _ _ c.cx h4) h5
      · exact lc h5.1
      · exact lc h5.1
    · cases h
  | .asgT is e, st, h => by
    unfold okS at h
    split at h
    · simp only [Bool.and_eq_true] at h
      obtain ⟨⟨⟨h1, h2⟩, h3⟩, h4⟩ := h
      obtain ⟨t1, t2⟩ := tgs_of c.cx h1
      rw [exec]
      exact ss_asgT (c.cx.rel f) (by rw [c.cx.hN]; exact c.cx.nd) c.cx.calm t1 t2 ((snd f e).v _ _ _ _ c.cx h2) h3 h4
    · cases h
  | .append i e, st, h => by
    unfold okS at h
    split at h
    · simp only [Bool.and_eq_true, decide_eq_true_eq] at h
      obtain ⟨⟨⟨⟨h1, h2⟩, h3⟩, h4⟩, h5⟩ := h
      subst h1
      obtain ⟨n, p, e1, k1, k2, k3, k4⟩ := slot_of c.cx h2
      cases e1
      rw [exec]
      exact ss_append k1 k2 k3 k4 ((snd f e).v _ _ _ _ c.cx h3) h4 h5
    · cases h
  | .insert i kk e, st, h => by
    unfold okS at h
    split at h
    · simp only [Bool.and_eq_true, decide_eq_true_eq] at h
      obtain ⟨⟨⟨⟨⟨⟨h1, h2⟩, h3⟩, h4⟩, h5⟩, h6⟩, h7⟩ := h
      subst h1
      obtain ⟨n, p, e1, k1, k2, k3, k4⟩ := slot_of c.cx h2
      cases e1
      rw [exec]
      exact ss_insert k1 k2 k3 k4 ((snd f kk).v _ _ _ _ c.cx h3) ((snd f e).v _ _ _ _ c.cx h4) h5 h6 h7
    · cases h
  | .setIx i kk e, st, h => by
    unfold okS at h
    split at h
    · simp only [Bool.and_eq_true] at h
      obtain ⟨⟨⟨h2, h3⟩, h4⟩, h5⟩ := h
      obtain ⟨n, p, e1, k1, k2, k3, k4⟩ := slot_of c.cx h2
      cases e1
      rw [exec]
      exact ss_setIx k1 k2 k3 k4 ((snd f kk).v _ _ _ _ c.cx h3) ((snd f e).v _ _ _ _ c.cx h4) h5
    · cases h
  | .setFld i fl e, st, h => by
    unfold okS at h
    split at h
    · simp only [Bool.and_eq_true] at h
      obtain ⟨⟨⟨h2, h3⟩, h4⟩, h5⟩ := h
      obtain ⟨n, p, e1, k1, k2, k3, k4⟩ := slot_of c.cx h2
      cases e1
      obtain ⟨f1, f2⟩ := f.fld _ _ h3
      rw [exec]
      exact ss_fld f.attr f2 f1 (c.cx.rel f) k1 k2 k3 k4 ((snd f e).v _ _ _ _ c.cx h4) h5
    · cases h
  | .ret e, st, h => by
    unfold okS at h
    split at h
    · rw [exec]
      exact ss_ret ((snd f e).v _ _ _ _ c.cx h)
    · cases h
  | .ite cc a b, st, h => by
    unfold okS at h
    split at h
    · simp only [Bool.and_eq_true] at h
      rw [exec]
      exact ss_ite ((snd f cc).t _ _ _ _ c.cx h.1.1) (sndSs f c a _ h.1.2) (sndSs f c b _ h.2)
    · cases h
  | .for_ tg isT src body, st, h => by
    unfold okS at h
    split at h
    · simp only [Bool.and_eq_true] at h
      obtain ⟨⟨⟨h1, h2⟩, h3⟩, h4⟩ := h
      have nd : X.N.Nodup := by rw [c.cx.hN]; exact c.cx.nd
      have hsrc := fun tg' => (snd f src).i _ _ _ _ tg' c.cx h2
      have hbody := sndSs f c body _ h3
      rw [exec]
      unfold tgB at h1
      cases isT with
      | true =>
        rw [if_pos rfl] at h1
        split at h1
        · obtain ⟨t1, t2⟩ := tgs_of c.cx h1
          exact ss_for c.own c.cx.calm (hsrc _) (pg_tgs nd c.cx.calm t1) (tgC_tup (c.cx.rel f) t2) hbody h4
        · cases h1
      | false =>
        rw [if_neg Bool.false_ne_true, Bool.and_eq_true] at h1
        obtain ⟨t1, t2⟩ := tgs_of c.cx h1.1
        match tg, of_decide_eq_true h1.2, t1, t2 with
        | [i], _, .cons hn hl hf .nil, t2 =>
          exact ss_for c.own c.cx.calm (hsrc _) (pg_name nd hn hl hf) (tgC_name (t2 i (List.Mem.head _))) hbody h4
    · cases h
  | .while_ cc body, st, h => by
    unfold okS at h
    split at h
    · simp only [Bool.and_eq_true] at h
      rw [exec]
      exact ss_while c.own ((snd f cc).t _ _ _ _ c.cx h.1) (sndSs f c body _ h.2)
    · cases h
  | .brk, st, h => by
    unfold okS at h
    split at h
    · rw [exec]; exact ss_brk
    · cases h
  | .cont, st, h => by
    unfold okS at h
    split at h
    · rw [exec]; exact ss_cont
    · cases h
  | .pass, st, h => by
    unfold okS at h
    split at h
    · rw [exec]; exact ss_pass
    · cases h
  | .bad, st, h => by rw [exec]; exact ss_bad
  | .aug _ _ _, st, h => by unfold okS at h; cases h
  | .augFld _ _ _ _, st, h => by unfold okS at h; cases h
  | .epoch _, st, h => by unfold okS at h; cases h
  | .empt _ _, st, h => by unfold okS at h; cases h
theorem sndSs (f : Facts Z G T I P k) (c : StOk Z G N k sc X) : ∀ (ss : List S) (sts : List Stmt), okSs T N br sc ss sts = true → PSs X sts (RS G false br (execs I P br fuel ss))
  | [], sts, h => by
    unfold okSs at h
    split at h
    · rw [execs]; exact ss_nil
    · cases h
  | s :: ss, sts, h => by
    unfold okSs at h
    split at h
    · rw [Bool.and_eq_true] at h
      rw [execs]
      exact ss_cons (sndS f c s _ h.1) (sndSs f c ss _ h.2)
    · cases h
end
end
end MV
set_option maxHeartbeats 4000000
/-! MVDef: a def keeps its promise. -/
namespace MV
open PySem PySem.Spec L2

section
variable {Z : Pg} {G : Gx} {T : Tab} {I : Info} {P : Phi} {k fuel : Nat} {N ps : List Str} {br : List Nat} {X : Cx} {F F' : Fz} {e e' : Env} {σ σ' : L2.St} {H H' : Hp}

def Env.ext (e : Env) (m : Nat) : Env := ⟨e.t, e.sl ++ List.replicate m none⟩
theorem get_ext (e : Env) (m i : Nat) : (e.ext m).get i = e.get i := by
  unfold Env.get Env.ext
  dsimp only
  by_cases h : i < e.sl.length
  · rw [List.getElem?_append_left h]
  · rw [List.getElem?_append_right (by omega), List.getElem?_eq_none (l := e.sl) (by omega), List.getElem?_replicate]
    split <;> rfl
theorem σ_ext {m i : Nat} {v : V} (h : σ[i]? = some (some v)) : (σ ++ List.replicate m none)[i]? = some (some v) := by
  rw [List.getElem?_append_left (List.getElem?_eq_some_iff.mp h).1]; exact h
theorem σ_ext' {m i : Nat} {v : V} (h : (σ ++ List.replicate m none)[i]? = some (some v)) : σ[i]? = some (some v) := by
  by_cases hi : i < σ.length
  · rw [List.getElem?_append_left hi] at h; exact h
  · rw [List.getElem?_append_right (by omega), List.getElem?_replicate] at h
    split at h <;> cases h
theorem own_ext {m : Nat} {a : Addr} : OwnA (e.ext m) (σ ++ List.replicate m none) a ↔ OwnA e σ a := by
  constructor
  · rintro ⟨i, c, h1, h2⟩
    exact ⟨i, c, by rw [get_ext] at h1; exact h1, σ_ext' h2⟩
  · rintro ⟨i, c, h1, h2⟩
    exact ⟨i, c, by rw [get_ext]; exact h1, σ_ext h2⟩
theorem Rel.ext (R : Rel G F e σ H) (m : Nat) : Rel G F (e.ext m) (σ ++ List.replicate m none) H := by
  refine ⟨R.sub, ?_, fun i x h => ?_, fun i c h => ?_, fun i j c c' a h1 h2 h3 h4 => ?_, R.ept⟩
  · show (e.sl ++ _).length = _
    rw [List.length_append, List.length_append, R.len]; simp
  · rw [get_ext] at h
    obtain ⟨v, h1, h2⟩ := R.dat i x h
    exact ⟨v, σ_ext h1, h2⟩
  · rw [get_ext] at h
    obtain ⟨a, h1, h2⟩ := R.own i c h
    exact ⟨a, σ_ext h1, h2⟩
  · rw [get_ext] at h1 h2
    exact R.dis i j c c' a h1 h2 (σ_ext' h3) (σ_ext' h4)
/-- what has become of the parameters -/
def finOf (br : List Nat) (np : Nat) (e : Env) : List (Option Sl) := (List.range np).map fun i => if i ∈ br then e.get i else none
theorem get_fin {t np i : Nat} {s : Sl} (h : Env.get ⟨t, finOf br np e⟩ i = some s) : i < np ∧ i ∈ br ∧ e.get i = some s := by
  unfold Env.get finOf at h
  dsimp only at h
  rw [List.getElem?_map] at h
  by_cases hi : i < np
  · rw [List.getElem?_range hi] at h
    have h : (if i ∈ br then e.get i else none) = some s := h
    split at h
    · rename_i hb; exact ⟨hi, hb, h⟩
    · cases h
  · rw [List.getElem?_eq_none (l := List.range np) (by simp; omega)] at h
    cases h
theorem okArgs_of : ∀ {args : List Sl} {j i : Nat} {c : Cell}, okArgs br j args = true → args[i]? = some (.own c) → i + j ∈ br
  | [], _, _, _, _, h => by simp at h
  | .d x :: r, j, i, c, h, q => by
    unfold okArgs at h
    cases i with
    | zero => simp at q
    | succ i =>
      have := okArgs_of (i := i) (c := c) h (by simpa using q)
      rw [show i + 1 + j = i + (j + 1) by omega]; exact this
  | .own c' :: r, j, i, c, h, q => by
    unfold okArgs at h
    rw [Bool.and_eq_true] at h
    cases i with
    | zero =>
      have h1 := h.1
      rw [List.contains_eq_mem, decide_eq_true_eq] at h1
      simpa using h1
    | succ i =>
      have := okArgs_of (i := i) (c := c) h.2 (by simpa using q)
      rw [show i + 1 + j = i + (j + 1) by omega]; exact this
theorem fin_core {t np m : Nat} {args : List Sl} {vs : List V} {w : Sl} {v : V} (hl : vs.length = np) (R' : Rel G F' e' σ' H') (S : StepS false br ⟨F, Env.ext ⟨t, args.map some⟩ m, vs.map some ++ List.replicate m none, H⟩ F' e' σ' H') (r : WRel G F' e' σ' H' H (slW w) v) :
    Rel G F' ⟨t, finOf br np e'⟩ (vs.map some) H' ∧ Step t F ⟨t, args.map some⟩ (vs.map some) H F' ⟨t, finOf br np e'⟩ (vs.map some) H' ∧ WRel G F' ⟨t, finOf br np e'⟩ (vs.map some) H' H (slW w) v := by
  have tm : e'.t = t := S.tm rfl
  have at_ : ∀ {i : Nat} {z : V}, i < np → i ∈ br → σ'[i]? = some (some z) → (vs.map some)[i]? = some (some z) := fun {i z} hi hb h => by
    rw [S.br i hb] at h
    exact σ_ext' h
  have at' : ∀ {i : Nat} {z : V}, i < np → i ∈ br → (vs.map some)[i]? = some (some z) → σ'[i]? = some (some z) := fun {i z} hi hb h => by
    rw [S.br i hb]
    exact σ_ext h
  have ow : ∀ a, OwnA ⟨t, finOf br np e'⟩ (vs.map some) a → OwnA e' σ' a := fun a ⟨i, c, h1, h2⟩ => by
    obtain ⟨k1, k2, k3⟩ := get_fin h1
    exact ⟨i, c, k3, at' k1 k2 h2⟩
  have S' := S.st
  rw [if_neg Bool.false_ne_true] at S'
  refine ⟨⟨R'.sub, by simp [finOf, hl], fun i x h => ?_, fun i c h => ?_, fun i j c c' a h1 h2 h3 h4 => ?_, fun a o h => ?_⟩, ⟨S'.le, fun a o h => ?_, fun a o h n z => ?_, fun a h => ?_, S'.th, Nat.le_refl _⟩, ?_⟩
  · obtain ⟨k1, k2, k3⟩ := get_fin h
    obtain ⟨z, h1, h2⟩ := R'.dat i x k3
    exact ⟨z, at_ k1 k2 h1, h2⟩
  · obtain ⟨k1, k2, k3⟩ := get_fin h
    obtain ⟨a, h1, h2⟩ := R'.own i c k3
    exact ⟨a, at_ k1 k2 h1, h2⟩
  · obtain ⟨k1, k2, k3⟩ := get_fin h1
    obtain ⟨j1, j2, j3⟩ := get_fin h2
    exact R'.dis i j c c' a k3 j3 (at' k1 k2 h3) (at' j1 j2 h4)
  · have := R'.ept a o h
    rw [tm] at this; exact this
  · rcases S'.fr a o h with q | q | q
    · exact .inl q
    · exact .inr (.inl q)
    · exact .inr (.inr (own_ext.mp q))
  · exact S'.kp a o h (fun w => n (own_ext.mp w)) z
  · rcases S'.ow a (ow a h) with q | q
    · exact .inl (own_ext.mp q)
    · exact .inr q
  · cases w with
    | d x => exact r
    | own c =>
      obtain ⟨a, h1, h2, h3, h4⟩ := r
      exact ⟨a, h1, h2, fun q => h3 (ow a q), h4⟩
/-- a def's body, from its beginning -/
theorem body_core {n fi np : Nat} {fns : Nat → Option FnI} {d : FnI} {vs : List V} {Q : VK} {E : XK} (hf : fns fi = some d) (hnl : d.nl = N.length) (hnp : d.np = np) (h : spF G (callF I fns fuel (n + 1)) fi np vs H Q E) :
    RS G false d.br (execs I (callF I fns fuel n) d.br fuel d.body) { nx := fun _ H' => Q .non H', rt := Q } (L2.start N vs) H := by
  obtain ⟨hl, F, t, args, R, h⟩ := h
  unfold callF at h
  rw [hf] at h
  dsimp only at h
  by_cases hc : args.length = d.np ∧ okArgs d.br 0 args = true
  · rw [if_pos hc] at h
    have es : L2.start N vs = vs.map some ++ List.replicate (d.nl - d.np) none := by
      unfold L2.start
      rw [hl, hnl, hnp]
    rw [es]
    have R0 := R.ext (d.nl - d.np)
    refine ⟨H, vs.map some ++ List.replicate (d.nl - d.np) none, F, Env.ext ⟨t, args.map some⟩ (d.nl - d.np), R0, ⟨fun _ h => h, fun a ⟨i, c, h1, h2⟩ => ?_, fun _ _ => rfl⟩, ?_⟩
    · rw [get_ext] at h1
      have h1' : ((args.map some)[i]?).join = some (.own c) := h1
      rw [List.getElem?_map] at h1'
      cases q : args[i]? with
      | none => rw [q] at h1'; cases h1'
      | some sl =>
        rw [q] at h1'
        have e1 : sl = .own c := Option.some.inj h1'
        subst e1
        exact .inl ⟨i, okArgs_of (j := 0) hc.2 q, h2⟩
    · unfold ExS
      have ee : Env.ext ⟨t, args.map some⟩ (d.nl - d.np) = ⟨t, args.map some ++ List.replicate (d.nl - d.np) none⟩ := rfl
      rw [ee]
      cases q : execs I (callF I fns fuel n) d.br fuel d.body ⟨t, args.map some ++ List.replicate (d.nl - d.np) none⟩ with
      | exc _ _ => rw [q] at h; exact h
      | stuck => rw [q] at h; exact h
      | ok fl e1 =>
        rw [q] at h
        cases fl with
        | brk => exact h.elim
        | cont => exact h.elim
        | next =>
          intro F' σ' H' R' S'
          obtain ⟨k1, k2, k3⟩ := fin_core (np := d.np) (w := .d .non) (v := .non) (hl.trans hnp.symm) R' S' (show Is G F' .non .non from Is.non_of)
          exact h F' H' _ k1 k2 k3
        | ret s =>
          intro F' σ' H' R' S' v r
          obtain ⟨k1, k2, k3⟩ := fin_core (np := d.np) (w := s) (v := v) (hl.trans hnp.symm) R' S' r
          exact h F' H' _ k1 k2 k3
  · rw [if_neg hc] at h; exact h.elim
/-- a def of the text -/
theorem fn_ok {n fi np : Nat} {fns : Nat → Option FnI} {d : FnI} {fa : Addr} {name qual : Str} {params : Arguments} {body : List Stmt} {scope : Scope} {dV kV doc pm cdv ct oc : Value} {an od : Option Addr} {osl : Array (Option Value)}
    (f : Facts Z G T I (callF I fns fuel n) k) (hf : fns fi = some d) (hnl : d.nl = N.length) (hnp : d.np = np) (hps : ps.length = np) (lk : Z.K.lookup fa = some ⟨oc, od, .func (PySem.W.fnOf name qual params body scope dV kV doc pm an cdv ct), osl⟩) (hcd : PySem.W.codeIn Z.K cdv qual = true) (S : FnScope N ps scope)
    (hb : Binds Z.K (PySem.W.fnOf name qual params body scope dV kV doc pm an cdv ct) ps []) (hok : okSs T N d.br scope d.body body = true) : Z.Fn G (callF I fns fuel (n + 1)) (k + 2) fa fi np := by
  refine ⟨_, ps, fn_of lk hcd S (fun vs H Q E h => h.1.trans hps.symm) fun A outer s H vs Q E hr h => ?_, hb⟩
  refine ⟨_, sndSs (fuel := fuel) f ⟨⟨rfl, rfl, rfl, rfl, rfl, rfl, S.nd, rfl, hr, fun y q => ?_, fun y q => ?_, fun y q => ?_, fun _ => rfl⟩, passes_of rfl, ?_⟩ d.body body hok, body_core hf hnl hnp h⟩
  · unfold visB at q
    split at q
    · exact .inl ‹_›
    · exact .inr (.inl ‹_›)
    · exact .inr (.inr ‹_›)
    · cases q
  · unfold locB at q
    refine ⟨?_, .inl rfl⟩
    split at q
    · exact .inl ‹_›
    · exact .inr ‹_›
    · cases q
  · unfold glB at q
    split at q
    · rename_i z; exact z
    · cases q
  · show (if scope.kind.isAnnotationScope then _ else scope.kind) = _
    rw [S.kind]; rfl
end
end MV
set_option maxHeartbeats 2000000
/-! MVOwn: objects with their own iteration. -/
namespace MV
open PySem PySem.Spec L2

/-- at it a new iterator over the tuple at l -/
def ItT (l it : Addr) : HO := .ext fun h => h.IsTupleIter it l 0
theorem itT_ok {P : Program} {w : World} {H : Hp} {h : Heap} {l it : Addr} (e : h.IsTupleIter it l 0) : ObjOk P w H h it (ItT l it) := by
  obtain ⟨o, h1, h2, h3⟩ := id e
  exact ⟨e, ⟨o, h1⟩, fun h1 h2 q k => q.at fun o z => k o z⟩
section
variable {X : Cx}
theorem call_iterTN : CallR X (.builtin "iter") (fun xs H Q => ∃ (l : Addr) (zs : List V), xs = [.ref l] ∧ SqT X.K H l zs ∧ ∀ it, H it = Option.none → X.s_0.heap.objs.size ≤ it → Q (.ref it) (upd H it (ItT l it))) := by
  intro pins s σ H xs us Q I r h
  obtain ⟨l, zs, rfl, hq, q⟩ := h
  rw [Vals.ref1 r]
  obtain ⟨its, rv, ht, hz⟩ := I.tuple hq
  refine Calls.call_function_entry (by decide +kernel) (by decide +kernel) PySem.W.kdk_entry_iter (PySem.W.kdk_args_iter _) ?_
  unfold Builtin.«iter»
  refine wpAny_bind (m := someArgs "iter" 1 2 _) (wpAny_of_eq (a := [Value.ref l]) (by first | rfl | kernel_rfl) ?_)
  show wpAny _ _ (pyIter (.ref l) >>= _) _ _ _
  refine wpAny_bind (wpAny_pyIter_tuple (show s.heap.IsTuple l its.toArray from ht) ?_)
  refine wpAny_pure ⟨_, rfl, ?_⟩
  exact ⟨.ref s.heap.objs.size, _, I.laid (t' := s.toks) (fun b u e => Heap.get?_push_of_some _ e) (Nat.le_refl _) (itT_ok ⟨_, Heap.get?_push_size _ rfl, rfl, rfl⟩), rfl, q _ (I.hok.fresh (Nat.le_refl _)) I.sz⟩
end
/-- a def, run from one state: the promise may speak of that state -/
theorem fn_at {CX : CXT} {P : Program} {w : World} {K : PySem.W.Frag} {mg : Str → Option Value} {base : Heap} {k : Nat} {f : Addr} {name qual : Str} {params : Arguments} {body : List Stmt} {scope : Scope} {dV kV doc pm cdv ct oc : Value} {an od : Option Addr} {osl : Array (Option Value)} {N ps : List Str}
    (lk : K.lookup f = some ⟨oc, od, .func (PySem.W.fnOf name qual params body scope dV kV doc pm an cdv ct), osl⟩) (hcd : PySem.W.codeIn K cdv qual = true) (S : FnScope N ps scope) {A : Around} {outer : List PySem.Env} {s : Shared} {H : Hp} {args : Args} {us : List Value} {vs : List V} {Q : VK} {E : XK}
    (hr : Room (k + 1) A) (e0 : Env0 P w K mg base A outer s H) (hb : BindsTo s (PySem.W.fnOf name qual params body scope dV kV doc pm an cdv ct) args (ps.zip us)) (r : Vals vs us) (hl : vs.length = ps.length)
    (hbody : ∃ t, PSs (cxOf CX P w K mg base N qual scope f cdv A outer s H E) body t ∧ t { nx := fun _ H' => Q .non H', rt := Q } (L2.start N vs) H) : codeAny (model P w) A (.call (.ref f) args) (CR CX outer P w H s Q E) s := by
  obtain ⟨t, ht, hq⟩ := hbody
  have KX : K.In s.heap := PySem.W.Frag.In.keeps e0.mod.kin fun b o h => (e0.bs b o h).1
  have nol : s.heap.NoLimit := Heap.NoLimit.keeps e0.mod.nolimit fun b o h => (e0.bs b o h).1
  have kinds : ∀ z ∈ ps.zip us, scope.names.lookup z.1 = some .local ∨ (scope.names.lookup z.1 = some .cell ∧ ((cellsFrom (s.heap.objs.size + 1) scope.names []).lookup z.1).isSome = true) := by
    rintro ⟨z, u⟩ hz
    exact (S.par z (List.of_mem_zip hz).1).imp id fun q => ⟨q, PySem.W.cellsFrom_some _ _ _ (Or.inl q)⟩
  apply codeAny_call_function hr.depth (KX _ _ lk) rfl S.co S.gen rfl (PySem.W.codeRec_of KX hcd)
  apply hb
  apply wpAny_newFunctionEnv_cells S.kind kinds
  intro env he s1 x
  subst he
  refine ⟨nol.keeps x.toInCall.keep, codeAny_func (wpAny_mono (ht.run [] s1 (L2.start N vs) H _ (inv_start S hr.hd e0 hl r x) hq) ?_ fun _ _ z => z)⟩
  intro fl s' hs
  cases fl with
  | ret u => obtain ⟨v, σ', H', J, rv, q⟩ := hs; exact ⟨v, H', J.os, J.bare, J.base, J.hok, rv, q⟩
  | next => obtain ⟨σ', H', J, q⟩ := hs; exact ⟨V.non, H', J.os, J.bare, J.base, J.hok, rfl, q⟩
  | brk => obtain ⟨_, _, _, q⟩ := hs; exact q.elim
  | cont => obtain ⟨_, _, _, q⟩ := hs; exact q.elim
/-- an __iter__ of the text: return iter(self.an) -/
structure ItF (Z : Pg) (fa : Addr) (an : Str) : Prop where
  run : ∃ (name qual : Str) (params : Arguments) (scope : Scope) (dV kV doc pm cdv ct oc : Value) (dn od : Option Addr) (osl : Array (Option Value)) (sn : Str) (p1 p2 p3 p4 p5 p6 : Pos),
    Z.K.lookup fa = some ⟨oc, od, .func (PySem.W.fnOf name qual params [.Return (some (.Call (.Name "iter" p1) [.Attribute (.Name sn p2) an p3] [] p4)) p5] scope dV kV doc pm dn cdv ct), osl⟩ ∧ PySem.W.codeIn Z.K cdv qual = true ∧ FnScope [sn] [sn] scope ∧
    Binds Z.K (PySem.W.fnOf name qual params [.Return (some (.Call (.Name "iter" p1) [.Attribute (.Name sn p2) an p3] [] p4)) p5] scope dV kV doc pm dn cdv ct) [sn] [] ∧ glB scope "iter" = true ∧ nmB sn = true
  mg : Z.mg "iter" = none
theorem run_it {Z : Pg} {fa C : Addr} {an : Str} (h : ItF Z fa an) (cl : Cls Z.K C) (na : NoAttr Z.K C an) {k : Nat} {A : Around} {outer : List PySem.Env} {s : Shared} {H : Hp} {ad dx l : Addr} {fs : List (Str × V)} {zs : List V} {E : XK} (hr : Room (k + 1) A) (e0 : Env0 Z.prog Z.w Z.K Z.mg Z.base A outer s H)
    (hin : Z.K.In s.heap) (ea : H ad = some (.ins C dx fs)) (hl : fs.lookup an = some (.ref l)) (hq : SqT Z.K H l zs) :
    codeAny (model Z.prog Z.w) A (.call (.ref fa) ⟨[.ref ad], []⟩) (CR Z.CX outer Z.prog Z.w H s (fun v H' => ∃ it, v = .ref it ∧ H it = none ∧ s.heap.objs.size ≤ it ∧ H' = upd H it (ItT l it)) E) s := by
  obtain ⟨name, qual, params, scope, dV, kV, doc, pm, cdv, ct, oc, dn, od, osl, sn, p1, p2, p3, p4, p5, p6, lk, hcd, S, hb, hgl, hnm⟩ := h.run
  have hbb := hb s [.ref ad] hin rfl
  rw [List.append_nil] at hbb
  refine fn_at lk hcd S (us := [.ref ad]) (vs := [.ref ad]) hr e0 hbb (.cons rfl .nil) rfl ?_
  have hlk := S.par sn (List.Mem.head _)
  have hv : Vis (cxOf Z.CX Z.prog Z.w Z.K Z.mg Z.base [sn] qual scope fa cdv A outer s H E).env.scope sn := by
    rcases hlk with q | q
    · exact .inl q
    · exact .inr (.inl q)
  have hg : Gl (cxOf Z.CX Z.prog Z.w Z.K Z.mg Z.base [sn] qual scope fa cdv A outer s H E) "iter" := by
    unfold glB at hgl
    split at hgl
    · rename_i q; exact q
    · cases hgl
  obtain ⟨n1, n2⟩ := nm_of hnm
  refine ⟨_, pss_one (ps_ret (pe_callB (call_iterTN (X := cxOf Z.CX Z.prog Z.w Z.K Z.mg Z.base [sn] qual scope fa cdv A outer s H E)) hg h.mg (by decide +kernel) (pa_cons (pe_fld (pe_var (i := 0) (show ([sn] : List Str)[0]? = some sn from rfl) hv n1 n2) (abase_of rfl)) pa_nil rfl) (by decide) (by decide) rfl rfl)), ?_⟩
  exact ⟨.ref ad, rfl, ad, C, dx, fs, .ref l, rfl, ea, cl, na, hl, l, zs, rfl, hq, fun it h1 h2 => ⟨it, rfl, h1, h2, rfl⟩⟩
section
variable {Z : Pg} {G : Gx} {T : Tab} {I : Info} {P : Phi} {k : Nat} {N : List Str}
theorem ownI_of {c0 fl fi : Nat} {fa : Addr} (AF : AttrF G) (hK : G.K = Z.K) (never : ∀ X, Passes Z.CX X Never) (hI : ∀ c f', I.iterm c = some f' → c = c0 ∧ f' = fi)
    (hP : ∀ t c ns xs ys fin, P t fi [.d (.obj c ns xs)] = .ok (.d (.tup ys)) fin → fldAt fl ns xs = some (.tup ys))
    (hs : PySem.W.findIn Z.K (.ref (G.ca c0)) "__iter__" = some (some (.ref fa))) (hf : PySem.W.isFn Z.K (.ref fa) = true) (hit : ItF Z fa (G.fname fl)) (cl : Cls Z.K (G.ca c0)) (na : NoAttr Z.K (G.ca c0) (G.fname fl)) :
    ∀ N top sc X tg x m, CxOk Z G N k top sc X → PE X x (RT G W0 m) → OwnI G X I P tg x m := by
  intro N top sc X tg x m cx hx pins s σ H R F e c ns xs e1 I0 R0 q0 h
  refine thn (hx.run pins s σ H _ I0 h) fun v s1 ⟨z, H1, I1, rz, F1, e2, d, q1, R1, i1, k1, a1, t1⟩ => ?_
  rw [q0] at q1
  cases q1
  have i1' : Is G F1 (.obj c ns xs) z := i1
  rw [Is] at i1
  obtain ⟨ad, dx, vs, ez, h1, ⟨h2, hck⟩, h3⟩ := i1
  subst ez
  cases rz
  -- what the mini text says
  unfold itemsM at k1
  dsimp only at k1
  obtain ⟨f', hf', k1⟩ := k1.opt
  obtain ⟨rfl, rfl⟩ := hI c f' hf'
  have fin : ∃ ys fn, P e1.t f' [.d (.obj c ns xs)] = .ok (.d (.tup ys)) fn ∧ ∀ J, ItOk G J ys F1 → R J H1 := by
    unfold Ex bnd callM at k1
    rw [if_pos (show (refsOf [AV.d (.obj c ns xs)]).Nodup from List.nodup_nil)] at k1
    have e9 : argSl e1 [AV.d (.obj c ns xs)] = some [.d (.obj c ns xs)] := rfl
    rw [e9] at k1
    dsimp only at k1
    cases q : P e1.t f' [.d (.obj c ns xs)] with
    | exc _ =>
      rw [q] at k1
      exact (k1 F1 H1 R1 a1 t1).elim
    | stuck => rw [q] at k1; exact k1.elim
    | ok w fn =>
      rw [q] at k1
      dsimp only at k1
      by_cases hl : fn.length = [AV.d (D.obj c ns xs)].length
      · rw [if_pos hl] at k1
        have e10 : setFin e1 [AV.d (.obj c ns xs)] fn = e1 := by
          cases fn with
          | nil => cases hl
          | cons o r => rw [setFin]; cases r <;> rfl
        rw [e10] at k1
        cases w with
        | own cc => exact k1.elim
        | d dd =>
          cases dd with
          | tup ys => exact ⟨ys, fn, rfl, k1 F1 H1 R1 a1 t1⟩
          | _ => exact k1.elim
      · rw [if_neg hl] at k1; exact k1.elim
  obtain ⟨ys, fn, q, hR⟩ := fin
  obtain ⟨w, hw, iw⟩ := fld_of AF.inj h2 h3 (hP _ _ _ _ _ _ q)
  rw [Is] at iw
  obtain ⟨l, zs, ew, w1, w2⟩ := iw
  subst ew
  have hT1 : SqT Z.K H1 l zs := by rw [← hK]; exact SqT.le R1.sub w1
  obtain ⟨mA, O, _⟩ := ins_get I1.hok (R1.sub _ _ h1)
  obtain ⟨od, J, _⟩ := O.look
  obtain ⟨mm, hF⟩ := I1.fr
  have e0 : Env0 Z.prog Z.w Z.K Z.mg Z.base X.A X.stack s1 H1 := by
    have := I1.env0
    rw [cx.hpr, cx.hw, cx.hK, cx.hmg, cx.hbs] at this
    exact this
  have hkin : Z.K.In s1.heap := by
    have := I1.kIn
    rw [cx.hK] at this
    exact this
  have hrun := run_it (E := Never) hit cl na cx.room e0 hkin (R1.sub _ _ h1) hw hT1
  rw [← cx.hpr, ← cx.hw] at hrun
  refine PySem.W.owit_iter hF I1.ok.mod.kin J (by rw [cx.hK]; exact hs) (by rw [cx.hK]; exact hf) ?_
  refine wpAny_call (codeAny_mono hrun fun r s' hq => ?_)
  cases r with
  | error e => exact never X pins σ H1 s1 e s' I1 hq
  | ok fl =>
    cases fl with
    | next => exact False.elim hq
    | brk => exact False.elim hq
    | cont => exact False.elim hq
    | ret u =>
      obtain ⟨v2, H', os, bare, un, hok, rv2, it2, ev2, hit2, yng, eH2⟩ := hq
      subst ev2 eH2
      cases rv2
      obtain ⟨hh, g, dd, tt, os'⟩ := s'
      obtain rfl : os' = s1.os := os
      have I2 : L2.Inv X pins σ (upd H1 it2 (ItT l it2)) ⟨hh, g, dd, tt, s1.os⟩ := I1.call (h' := hh) (g' := g) (d' := dd) (t' := tt) (ch := []) un hok bare (fun b z => absurd z (by simp))
      generalize hs' : (⟨hh, g, dd, tt, s1.os⟩ : Shared) = s' at I2 ⊢
      have hat : upd H1 it2 (ItT l it2) it2 = some (ItT l it2) := upd_same
      have hti : s'.heap.IsTupleIter it2 l 0 := (I2.hok it2 _ hat).1
      have hty : s'.TypeIs (.ref it2) "tuple_iterator" := hti.typeIs
      show PySem.W.OwitIt _ _ _ _ _ _
      unfold PySem.W.OwitIt
      refine wpAny_specialOf (name := Str.ofString "__next__") hty PyProof.Rows.slot_tupleiter_next.lookup ?_
      have hdrop : ItX.dropH (upd H1 it2 (ItT l it2)) it2 = H1 := ItX.dropH_upd hit2
      have I3 : L2.Inv X pins σ H1 s' := by
        have := ItX.inv_drop I2 hat
        rw [hdrop] at this
        exact this
      have young : X.s_0.heap.objs.size ≤ it2 := by
        exact Nat.le_trans I1.sz yng
      have hfp := ItX.inv_fp I2 hat young
      rw [hdrop] at hfp
      refine ⟨it2, [it2], _, Itt X.K l, H1, rfl, I3, turn_tuple l it2, hti, fun b hb => ?_, hR _ ?_⟩
      · have e0 : b = it2 := by simpa using hb
        subst e0; exact hfp
      · exact itOk_tup (by rw [cx.hK]; exact hK) (by rw [cx.hK, ← hK]; exact w1) w2
end
end MV
set_option maxHeartbeats 2000000
/-! MVTop: law's body: epochs, lists that are emptied. -/
namespace MV
open PySem PySem.Spec L2

/-- only lists of F that are of epoch t have been emptied -/
structure Em (F : Fz) (t : Nat) (H H' : Hp) : Prop where
  kp : ∀ a o, H a = some o → H' a = some o ∨ (F.ep a = t ∧ (∃ l, F.h a = some (.lst l)) ∧ H' a = some (.lst []))
  th : ∀ a, H' a = none → H a = none
/-- F lies in H, but for lists of epoch t that have been emptied -/
def FH (F : Fz) (t : Nat) (H : Hp) : Prop := ∀ a o, F.h a = some o → H a = some o ∨ (F.ep a = t ∧ (∃ l, o = .lst l) ∧ H a = some (.lst []))
/-- what `_law_emptied` promises -/
def spEmp (G : Gx) (n : Nat) : Sp := fun vs H Q _ => ∃ v F x t, vs = [v] ∧ Is G F x v ∧ allAt t x = true ∧ isSeq x = true ∧ depthD x ≤ n ∧ FH F t H ∧ ∀ H', Em F t H H' → Q .non H'
/-- without the lists of epoch t -/
def Fz.cut (F : Fz) (t : Nat) : Fz := ⟨fun a => match F.h a with
  | some (.lst l) => if F.ep a = t then none else some (.lst l)
  | o => o, F.ep⟩
theorem cut_sub {F : Fz} {t : Nat} {a : Addr} {o : HO} (h : (F.cut t).h a = some o) : F.h a = some o ∧ ((∃ l, o = .lst l) → F.ep a ≠ t) := by
  unfold Fz.cut at h
  dsimp only at h
  split at h
  · rename_i l q
    split at h
    · cases h
    · rename_i ne
      cases h
      exact ⟨q, fun _ => ne⟩
  · rename_i q
    exact ⟨h, fun ⟨l, e⟩ => absurd (by rw [h, e]) (q l)⟩
theorem cut_of {F : Fz} {t : Nat} {a : Addr} {o : HO} (h : F.h a = some o) (n : (∃ l, o = .lst l) → F.ep a ≠ t) : (F.cut t).h a = some o := by
  unfold Fz.cut
  dsimp only
  cases o <;> (try (rw [h])) 
  rename_i l
  dsimp only
  rw [if_neg (n ⟨l, rfl⟩)]
section
variable {G : Gx} {F : Fz} {t : Nat}
theorem sqT_cut {K : PySem.W.Frag} {a : Addr} {vs : List V} (h : SqT K F.h a vs) : SqT K (F.cut t).h a vs := by
  rcases h with (h | ⟨o, h⟩) | h
  · exact .inl (.inl (cut_of h fun ⟨l, e⟩ => by cases e))
  · exact .inl (.inr ⟨o, cut_of h fun ⟨l, e⟩ => by cases e⟩)
  · exact .inr h
theorem sqL_cut {K : PySem.W.Frag} {a : Addr} {ns : List V} (h : SqL K F.h a ns) (n : F.ep a ≠ t) : SqL K (F.cut t).h a ns := by
  rcases h with (h | ⟨o, h⟩) | h
  · exact .inl (.inl (cut_of h fun _ => n))
  · exact .inl (.inr ⟨o, cut_of h fun ⟨l, e⟩ => by cases e⟩)
  · exact .inr h
mutual
theorem is_cut : ∀ {d : D} {v : V}, noScr d = true → older t d = true → Is G F d v → Is G (F.cut t) d v
  | .non, v, _, _, h => by rw [Is] at h ⊢; exact h
  | .bl b, v, _, _, h => by rw [Is] at h ⊢; exact h
  | .int i, v, _, _, h => by rw [Is] at h ⊢; exact h
  | .str x, v, _, _, h => by rw [Is] at h ⊢; exact h
  | .tup xs, v, s, q, h => by
    rw [Is] at h ⊢
    obtain ⟨a, vs, e, h1, h2⟩ := h
    exact ⟨a, vs, e, sqT_cut h1, isL_cut (by unfold noScr at s; exact s) (by unfold older at q; exact q) h2⟩
  | .lst u xs, v, s, q, h => by
    rw [Is] at h ⊢
    obtain ⟨a, vs, e, h1, h3, h2⟩ := h
    unfold older at q
    rw [Bool.and_eq_true, decide_eq_true_eq] at q
    exact ⟨a, vs, e, cut_of h1 fun _ => by rw [h3]; omega, h3, isL_cut (by unfold noScr at s; exact s) q.2 h2⟩
  | .obj c ns xs, v, s, q, h => by
    rw [Is] at h ⊢
    obtain ⟨a, dx, vs, e, h1, h3, h2⟩ := h
    exact ⟨a, dx, vs, e, cut_of h1 fun ⟨l, e⟩ => (by cases e), h3, isL_cut (by unfold noScr at s; exact s) (by unfold older at q; exact q) h2⟩
  | .scr ns, v, s, q, h => by unfold noScr at s; cases s
theorem isL_cut : ∀ {xs : List D} {vs : List V}, noScrL xs = true → olderL t xs = true → IsL G F xs vs → IsL G (F.cut t) xs vs
  | [], vs, _, _, h => by rw [IsL] at h ⊢; exact h
  | x :: xs, vs, s, q, h => by
    rw [IsL] at h ⊢
    obtain ⟨v, r, e, h1, h2⟩ := h
    unfold olderL at q
    unfold noScrL at s
    rw [Bool.and_eq_true] at q s
    exact ⟨v, r, e, is_cut s.1 q.1 h1, isL_cut s.2 q.2 h2⟩
end
end
section
variable {G : Gx} {F F' : Fz} {e e' : Env} {σ : L2.St} {H H' : Hp} {X : Cx} {I : Info} {P : Phi} {fuel t i : Nat} {br : List Nat} {m : M Fl}
/-- an epoch begins: no statement -/
theorem ss_epoch {sts : List Stmt} (h : PSs X sts (RS G true br m)) : PSs X sts (RS G true br (seqM (exec I P br fuel (.epoch t)) m)) := by
  refine PSs.imp h fun D σ H ⟨H0, σ0, F, e, R, B, h⟩ => ?_
  unfold ExS seqM bnd at h
  rw [exec] at h
  dsimp only at h
  by_cases c : e.t ≤ t
  · rw [if_pos c] at h
    refine ⟨H0, σ0, F, { e with t := t }, ⟨R.sub, R.len, R.dat, R.own, R.dis, fun a o q => Nat.le_trans (R.ept a o q) c⟩, ⟨B.th, B.ow, B.br⟩, ?_⟩
    have h : ExS G true br ⟨F, e, σ, H⟩ m { e with t := t } (KD G br D H0) := h
    unfold ExS at h ⊢
    cases q : m { e with t := t } with
    | exc _ _ => rw [q] at h; exact h
    | stuck => rw [q] at h; exact h
    | ok a e1 =>
      rw [q] at h
      intro F' σ' H' R' S'
      refine h F' σ' H' R' ⟨⟨S'.st.le, S'.st.fr, S'.st.kp, S'.st.ow, S'.st.th, Nat.le_trans c S'.st.tm⟩, (by intro z; cases z), S'.br⟩
  · rw [if_neg c] at h; exact h.elim
theorem keep_get {sl : List (Option Sl)} {j : Nat} {s : Sl} {t0 : Nat} (h : Env.get ⟨t0, keepOlder t sl⟩ j = some s) : Env.get ⟨t0, sl⟩ j = some s ∧ s.older t = true ∧ s.noScr = true := by
  unfold Env.get keepOlder at h
  dsimp only at h
  rw [List.getElem?_map] at h
  unfold Env.get
  dsimp only
  cases q : sl[j]? with
  | none => rw [q] at h; cases h
  | some o =>
    rw [q] at h
    cases o with
    | none => cases h
    | some s' =>
      have h : (if (s'.older t && s'.noScr) = true then some s' else none) = some s := h
      split at h
      · rename_i c
        cases h
        rw [Bool.and_eq_true] at c
        exact ⟨rfl, c.1, c.2⟩
      · cases h
/-- what stays behind the emptying -/
theorem Rel.emptied (R : Rel G F e σ H) (E : Em F t H H') (ht : 1 ≤ t) : Rel G (F.cut t) { e with sl := keepOlder t (e.sl.set i none) } σ H' ∧ Step 0 F e σ H (F.cut t) { e with sl := keepOlder t (e.sl.set i none) } σ H' := by
  have was : ∀ j s, Env.get { e with sl := keepOlder t (e.sl.set i none) } j = some s → e.get j = some s ∧ s.older t = true ∧ s.noScr = true := fun j s h => by
    obtain ⟨h1, h2⟩ := keep_get h
    refine ⟨?_, h2⟩
    have h3 : (e.set i none).get j = some s := h1
    rw [Env.get_set] at h3
    split at h3
    · cases h3
    · exact h3
  refine ⟨⟨fun a o h => ?_, ?_, fun j x h => ?_, fun j c h => ?_, fun j k c1 c2 a h1 h2 => R.dis j k c1 c2 a (was _ _ h1).1 (was _ _ h2).1, fun a o h => R.ept a o (cut_sub h).1⟩, ⟨fun a o h z => ?_, fun a o h => .inl (by rw [(cut_sub h).1]; simp), fun a o h n z => ?_, fun a ⟨j, c, h, z⟩ => .inl ⟨j, c, (was j _ h).1, z⟩, E.th, Nat.le_refl _⟩⟩
  · obtain ⟨h1, h2⟩ := cut_sub h
    rcases E.kp a o (R.sub a o h1) with q | ⟨q1, ⟨l, q2⟩, _⟩
    · exact q
    · rw [h1] at q2
      exact absurd q1 (h2 ⟨l, Option.some.inj q2⟩)
  · show (keepOlder t (e.sl.set i none)).length = _
    unfold keepOlder
    rw [List.length_map, List.length_set]; exact R.len
  · obtain ⟨h1, h2, h3⟩ := was j _ h
    obtain ⟨v, k1, k2⟩ := R.dat j x h1
    exact ⟨v, k1, is_cut h3 h2 k2⟩
  · obtain ⟨h1, h2, h3⟩ := was j _ h
    obtain ⟨a, k1, k2, k3⟩ := R.own j c h1
    have hc : (F.cut t).h a = none := by
      cases q : (F.cut t).h a with
      | none => rfl
      | some o => rw [(cut_sub q).1] at k2; cases k2
    have stay : ∀ o, H a = some o → H' a = some o := fun o ho => by
      rcases E.kp a o ho with q | ⟨_, ⟨l, q2⟩, _⟩
      · exact q
      · rw [k2] at q2; cases q2
    refine ⟨a, k1, hc, ?_⟩
    cases c with
    | lst xs => obtain ⟨vs, e1, e2⟩ := k3; exact ⟨vs, stay _ e1, isL_cut h3 h2 e2⟩
    | obj c ns xs => obtain ⟨dx, vs, e1, e3, e2⟩ := k3; exact ⟨dx, vs, stay _ e1, e3, isL_cut h3 h2 e2⟩
  · refine ⟨cut_of h fun _ => ?_, rfl⟩
    omega
  · rcases E.kp a o h with q | ⟨q1, ⟨l, q2⟩, _⟩
    · exact q
    · rcases z with z | z
      · rw [z] at q2; cases q2
      · omega
theorem ss_empt {CX : CXT} {k n0 : Nat} {fa : Addr} {fd : FuncData} {ps : List Str} {fnm n : Str} {p p2 cp pos : Pos} (Fn : FnOk X.prog X.w X.K X.mg X.base CX k fa fd ps (spEmp G n0)) (hn0 : 12 ≤ n0) (hr : Room k X.A) (hg : Gl X fnm) (hm : X.mg fnm = some (.ref fa)) (hk : PySem.W.keepIn X.K (.ref fa) = true) (hb : Binds X.K fd ps []) (hx : Passes CX X Never)
    (hN : X.N[i]? = some n) (hv : Vis X.env.scope n) (hd : (n == ("__debug__" : Str)) = false) (hcd : (n == ("__classdict__" : Str)) = false) (hdb : (fnm == ("__debug__" : Str)) = false) :
    PS X (.Expr (.Call (.Name fnm p) [.Name n p2] [] cp) pos) (RS G true br (exec I P br fuel (.empt i t))) := by
  refine PS.imp (ps_expr (pe_call Fn hr hg hm hk hb .nil hx (pa_cons (pe_var hN hv hd hcd) pa_nil rfl) hdb rfl rfl) rfl) fun D σ H ⟨H0, σ0, F, e, R, B, h⟩ => ?_
  unfold ExS at h
  rw [exec] at h
  dsimp only at h
  cases q : e.get i with
  | none => rw [q] at h; exact h.elim
  | some sl =>
    rw [q] at h
    cases sl with
    | own _ => exact h.elim
    | d x =>
      dsimp only at h
      by_cases c : allAt t x = true ∧ isSeq x = true ∧ depthD x ≤ 12 ∧ 1 ≤ t
      · rw [if_pos c] at h
        obtain ⟨v, k1, k2⟩ := R.dat i x q
        refine ⟨v, k1, v, F, x, t, rfl, k2, c.1, c.2.1, Nat.le_trans c.2.2.1 hn0, fun a o z => .inl (R.sub a o z), fun H' E => ?_⟩
        obtain ⟨R', S'⟩ := R.emptied (i := i) E c.2.2.2
        exact h (F.cut t) σ H' R' ⟨by rw [if_pos rfl]; exact S', (by intro z; cases z), fun _ _ => rfl⟩
      · rw [if_neg c] at h; exact h.elim
end
/-- law's body is checked -/
def emptB (N : List Str) (sc : Scope) (i : Nat) : Stmt → Bool
  | .Expr (.Call (.Name en _) [.Name n p2] [] _) _ => decide (en = "_law_emptied") && glB sc en && slB N sc i (.Name n p2)
  | _ => false
def okTop (T : Tab) (N : List Str) (sc : Scope) : List S → List Stmt → Bool
  | [], xs => match xs with
    | [] => true
    | _ => false
  | .epoch _ :: ss, xs => okTop T N sc ss xs
  | .empt i _ :: ss, xs => match xs with
    | x :: xs => emptB N sc i x && okTop T N sc ss xs
    | [] => false
  | s :: ss, xs => match xs with
    | x :: xs => okS T N [] sc s x && okTop T N sc ss xs
    | [] => false
section
variable {Z : Pg} {G : Gx} {T : Tab} {I : Info} {P : Phi} {k fuel : Nat} {N : List Str} {sc : Scope} {X : Cx}
theorem okTop_cons {s : S} {ss : List S} {xs : List Stmt} (h : ∀ t, s ≠ .epoch t) (h2 : ∀ i t, s ≠ .empt i t) : okTop T N sc (s :: ss) xs = match xs with
    | x :: xs => okS T N [] sc s x && okTop T N sc ss xs
    | [] => false := by
  cases s <;> first | rfl | exact absurd rfl (h _) | exact absurd rfl (h2 _ _)
theorem sndTop (f : Facts Z G T I P k) (c : StOk Z G N k sc X) {fa : Addr} {fd : FuncData} {ps : List Str} {n0 : Nat} (Fn : FnOk Z.prog Z.w Z.K Z.mg Z.base Z.CX (k + 1) fa fd ps (spEmp G n0)) (hn0 : 12 ≤ n0) (hm : Z.mg "_law_emptied" = some (.ref fa)) (hk : PySem.W.keepIn Z.K (.ref fa) = true) (hb : Binds Z.K fd ps []) :
    ∀ (ss : List S) (sts : List Stmt), okTop T N sc ss sts = true → PSs X sts (RS G true [] (execs I P [] fuel ss))
  | [], sts, h => by
    unfold okTop at h
    split at h
    · rw [execs]; exact ss_nil
    · cases h
  | s :: ss, sts, h => by
    by_cases h1 : ∃ t, s = .epoch t
    · obtain ⟨t, rfl⟩ := h1
      unfold okTop at h
      rw [execs]
      exact ss_epoch (sndTop f c Fn hn0 hm hk hb ss sts h)
    · by_cases h2 : ∃ i t, s = .empt i t
      · obtain ⟨i, t, rfl⟩ := h2
        unfold okTop at h
        split at h
        · rw [Bool.and_eq_true] at h
          obtain ⟨h3, h4⟩ := h
          unfold emptB at h3
          split at h3
          · simp only [Bool.and_eq_true, decide_eq_true_eq] at h3
            obtain ⟨⟨e1, e2⟩, e3⟩ := h3
            subst e1
            obtain ⟨n, p, q, k1, k2, k3, k4⟩ := slot_of c.cx e3
            cases q
            rw [execs]
            refine ss_cons (ss_empt (by rw [c.cx.hpr, c.cx.hw, c.cx.hK, c.cx.hmg, c.cx.hbs]; exact Fn) hn0 c.cx.room (c.cx.gl _ e2) (by rw [c.cx.hmg]; exact hm) (by rw [c.cx.hK]; exact hk) (by rw [c.cx.hK]; exact hb) (f.never X) k1 k2 k3 k4 (by decide)) (sndTop f c Fn hn0 hm hk hb ss _ h4)
          · cases h3
        · cases h
      · rw [okTop_cons (fun t q => h1 ⟨t, q⟩) (fun i t q => h2 ⟨i, t, q⟩)] at h
        split at h
        · rw [Bool.and_eq_true] at h
          rw [execs]
          exact ss_cons (PS.imp (sndS f c s _ h.1) fun D σ H r => r.weak) (sndTop f c Fn hn0 hm hk hb ss _ h.2)
        · cases h
end
end MV
set_option maxHeartbeats 2000000
/-! MVEmp: `_law_emptied` keeps its promise. -/
namespace MV
open PySem PySem.Spec L2

section
variable {G : Gx} {F : Fz} {t : Nat} {H H' H2 : Hp}
theorem Em.refl : Em F t H H := ⟨fun _ _ h => .inl h, fun _ h => h⟩
theorem Em.trans (a : Em F t H H') (b : Em F t H' H2) : Em F t H H2 := by
  refine ⟨fun x o h => ?_, fun x h => a.th x (b.th x h)⟩
  rcases a.kp x o h with q | ⟨q1, q2, q3⟩
  · exact b.kp x o q
  · rcases b.kp x _ q3 with r | r
    · exact .inr ⟨q1, q2, r⟩
    · exact .inr r
theorem FH.em (h : FH F t H) (e : Em F t H H') : FH F t H' := by
  intro a o q
  rcases h a o q with r | ⟨r1, r2, r3⟩
  · rcases e.kp a o r with z | ⟨z1, ⟨l, z2⟩, z3⟩
    · exact .inl z
    · rw [q] at z2
      exact .inr ⟨z1, ⟨l, Option.some.inj z2⟩, z3⟩
  · rcases e.kp a _ r3 with z | ⟨z1, _, z3⟩
    · exact .inr ⟨r1, r2, z⟩
    · exact .inr ⟨z1, r2, z3⟩
/-- a new object, an emptied list -/
theorem Em.alloc {p : Addr} {o : HO} (hp : H p = none) : Em F t H (upd H p o) := by
  refine ⟨fun a u h => .inl ?_, fun a h => ?_⟩
  · rw [upd_ne (ne_of_none h hp)]; exact h
  · by_cases z : a = p
    · rw [z]; exact hp
    · rw [upd_ne z] at h; exact h
theorem Em.clear {a : Addr} {l xs : List V} (hF : F.h a = some (.lst l)) (he : F.ep a = t) (h : H a = some (.lst xs)) : Em F t H (upd H a (.lst [])) := by
  refine ⟨fun b u q => ?_, fun b q => ?_⟩
  · by_cases z : b = a
    · subst z
      exact .inr ⟨he, ⟨l, hF⟩, upd_same⟩
    · rw [upd_ne z]; exact .inl q
  · by_cases z : b = a
    · rw [z, upd_same] at q; cases q
    · rw [upd_ne z] at q; exact q
theorem sqT_fh {a : Addr} {vs : List V} (fh : FH F t H) (h : SqT G.K F.h a vs) : SqT G.K H a vs := by
  rcases h with (h | ⟨o, h⟩) | h
  · rcases fh a _ h with q | ⟨_, ⟨l, q⟩, _⟩
    · exact .inl (.inl q)
    · cases q
  · rcases fh a _ h with q | ⟨_, ⟨l, q⟩, _⟩
    · exact .inl (.inr ⟨o, q⟩)
    · cases q
  · exact .inr h
/-- the type of a part -/
theorem tyx_fh {d : D} {v : V} (fh : FH F t H) (h : Is G F d v) (q : allAt t d = true) : TyX G.K H v (.type (tagS (.d d))) := by
  cases d with
  | non => rw [Is] at h; subst h; exact .base .non
  | bl b => rw [Is] at h; subst h; exact .base (.bl b)
  | int i => rw [Is] at h; subst h; exact .base (.int i)
  | str x => rw [Is] at h; obtain ⟨rfl, _⟩ := h; exact .base (.str x)
  | obj c ns xs => exact absurd q Bool.false_ne_true
  | scr ns => exact absurd q Bool.false_ne_true
  | tup xs =>
    rw [Is] at h
    obtain ⟨a, vs, rfl, h1, _⟩ := h
    rcases sqT_fh fh h1 with (h1 | ⟨o, h1⟩) | ⟨o, its, n, h1, h2, _⟩
    · exact .base (.tup h1)
    · exact .fTuple h1
    · exact .kTuple h1 h2
  | lst u xs =>
    rw [Is] at h
    obtain ⟨a, vs, rfl, h1, _⟩ := h
    rcases fh a _ h1 with r | ⟨_, _, r⟩
    · exact .base (.lst r)
    · exact .base (.lst r)
theorem kit_seq {d : D} (q : allAt t d = true) : PySem.W.kitAny G.K (.type (tagS (.d d))) [.type "list", .type "tuple"] = some (isSeq d) := by
  have k : ∀ (a : String) (b c r : Bool), kitB a "list" = some b → kitB a "tuple" = some c → r = (b || c) → PySem.W.kitAny G.K (.type a) [.type "list", .type "tuple"] = some r := fun a b c r h1 h2 e => by
    subst e
    refine kitAny_cons (kit_ty h1) (fun z => ?_) fun z => by rw [z]; rfl
    refine kitAny_cons (kit_ty h2) (fun z2 => ?_) fun z2 => by rw [z2, Bool.or_true]
    rw [z, z2]; rfl
  cases d with
  | non => exact k "NoneType" false false _ (by decide +kernel) (by decide +kernel) rfl
  | bl _ => exact k "bool" false false _ (by decide +kernel) (by decide +kernel) rfl
  | int _ => exact k "int" false false _ (by decide +kernel) (by decide +kernel) rfl
  | str _ => exact k "str" false false _ (by decide +kernel) (by decide +kernel) rfl
  | tup _ => exact k "tuple" false true _ (by decide +kernel) (by decide +kernel) rfl
  | lst _ _ => exact k "list" true false _ (by decide +kernel) (by decide +kernel) rfl
  | obj _ _ _ => exact absurd q Bool.false_ne_true
  | scr _ => exact absurd q Bool.false_ne_true
end
end MV
namespace MV
open PySem PySem.Spec L2
/-- the text of `_law_emptied` -/
def empBody (g q : Str) (p : Nat → Pos) (k0 : Nat) : List Stmt :=
  [.For (.Name q (p 0)) (.Name g (p 1)) [.If (.Call (.Name "isinstance" (p 2)) [.Name q (p 3), .Tuple [.Name "list" (p 4), .Name "tuple" (p 5)] k0 (p 6)] [] (p 7)) [.Expr (.Call (.Name "_law_emptied" (p 8)) [.Name q (p 9)] [] (p 10)) (p 11)] [] (p 12)] [] (p 13),
   .If (.Call (.Name "isinstance" (p 14)) [.Name g (p 15), .Name "list" (p 16)] [] (p 17)) [.Expr (.Call (.Attribute (.Name g (p 18)) "clear" (p 19)) [] [] (p 20)) (p 21)] [] (p 22)]
section
variable {Z : Pg} {G : Gx} {X : Cx} {k n : Nat} {fa : Addr} {fd : FuncData} {ps : List Str} {g q : Str} {p : Nat → Pos} {k0 : Nat}
/-- isinstance(x, (list, tuple)), as a test -/
theorem pt_seq (hK : G.K = X.K) (hg : Gl X "isinstance") (hm : X.mg "isinstance" = none) (hl : Gl X "list") (hml : X.mg "list" = none) (ht : Gl X "tuple") (hmt : X.mg "tuple" = none) {i : Nat} {x : Str} {p0 p1 p2 p3 p4 pos : Pos} (hN : X.N[i]? = some x) (hv : Vis X.env.scope x) (hd : (x == ("__debug__" : Str)) = false) (hcd : (x == ("__classdict__" : Str)) = false) :
    PT X (.Call (.Name "isinstance" p0) [.Name x p1, .Tuple [.Name "list" p2, .Name "tuple" p3] k0 p4] [] pos)
      (fun σ H Q => ∃ v F t d, σ[i]? = some (some v) ∧ Is G F d v ∧ allAt t d = true ∧ FH F t H ∧ ∀ H', Em F t H H' → Q (isSeq d) H') := by
  have e1 : PE X (.Name "list" p2) (tC (.ty "list")) := pe_bltn hl hml (by decide +kernel) rfl (by decide) (by decide)
  have e2 : PE X (.Name "tuple" p3) (tC (.ty "tuple")) := pe_bltn ht hmt (by decide +kernel) rfl (by decide) (by decide)
  refine PT.imp (pt_truth (pe_callB call_isiT hg hm (by decide +kernel) (pa_cons (pe_var hN hv hd hcd) (pa_cons (pe_tup (pa_cs (es := [.Name "list" p2, .Name "tuple" p3]) (us := [.ty "list", .ty "tuple"]) rfl (.cons e1 (.cons e2 .nil)))) pa_nil rfl) rfl) (by decide) (by decide) rfl rfl) (plain_isTrue rfl)) fun σ H Q ⟨v, F, t, d, h1, h2, h3, h4, h5⟩ => ?_
  refine ⟨v, h1, by rw [sizeLine_eq]; decide, fun a ha => ?_⟩
  have em : Em F t H (upd H a (.tup [.ty "list", .ty "tuple"])) := Em.alloc ha
  refine ⟨v, a, [.ty "list", .ty "tuple"], _, [.type "list", .type "tuple"], isSeq d, rfl, upd_same, .cons (.ty _) (.cons (.ty _) .nil), hK ▸ tyx_fh (h4.em em) h2 h3, hK ▸ kit_seq h3, isSeq d, rfl, h5 _ em⟩
end
end MV
namespace MV
open PySem PySem.Spec L2
section
variable {G : Gx} {X : Cx} {k n : Nat} {fa : Addr} {fd : FuncData} {ps : List Str}
theorem pt_lst (hK : G.K = X.K) (hg : Gl X "isinstance") (hm : X.mg "isinstance" = none) (hl : Gl X "list") (hml : X.mg "list" = none) {i : Nat} {x : Str} {p0 p1 p2 pos : Pos} (hN : X.N[i]? = some x) (hv : Vis X.env.scope x) (hd : (x == ("__debug__" : Str)) = false) (hcd : (x == ("__classdict__" : Str)) = false) :
    PT X (.Call (.Name "isinstance" p0) [.Name x p1, .Name "list" p2] [] pos)
      (fun σ H Q => ∃ v F t d, σ[i]? = some (some v) ∧ Is G F d v ∧ allAt t d = true ∧ FH F t H ∧ Q (isTy (.d d) .list) H) := by
  have e1 : PE X (.Name "list" p2) (tC (.ty "list")) := pe_bltn hl hml (by decide +kernel) rfl (by decide) (by decide)
  refine PT.imp (pt_truth (pe_callB call_isi hg hm (by decide +kernel) (pa_cons (pe_var hN hv hd hcd) (pa_cons e1 pa_nil rfl) rfl) (by decide) (by decide) rfl rfl) (plain_isTrue rfl)) fun σ H Q ⟨v, F, t, d, h1, h2, h3, h4, h5⟩ => ?_
  have kk : PySem.W.kitOne G.K (.type (tagS (.d d))) (.type "list") = some (isTy (.d d) .list) := by
    cases d with
    | non => exact kit_ty (show kitB "NoneType" "list" = some false by decide +kernel)
    | bl _ => exact kit_ty (show kitB "bool" "list" = some false by decide +kernel)
    | int _ => exact kit_ty (show kitB "int" "list" = some false by decide +kernel)
    | str _ => exact kit_ty (show kitB "str" "list" = some false by decide +kernel)
    | tup _ => exact kit_ty (show kitB "tuple" "list" = some false by decide +kernel)
    | lst _ _ => exact kit_ty (show kitB "list" "list" = some true by decide +kernel)
    | obj _ _ _ => exact absurd h3 Bool.false_ne_true
    | scr _ => exact absurd h3 Bool.false_ne_true
  exact ⟨v, h1, v, .ty "list", _, _, _, rfl, .ty _, hK ▸ tyx_fh h4 h2 h3, hK ▸ kk, _, rfl, h5⟩
theorem allAtL_get {t : Nat} : ∀ {xs : List D} {i : Nat} {x : D}, allAtL t xs = true → xs[i]? = some x → allAt t x = true
  | [], _, _, _, h => by simp at h
  | y :: ys, 0, x, q, h => by
    unfold allAtL at q
    rw [Bool.and_eq_true] at q
    simp at h; subst h; exact q.1
  | y :: ys, i + 1, x, q, h => by
    unfold allAtL at q
    rw [Bool.and_eq_true] at q
    exact allAtL_get (i := i) q.2 (by simpa using h)
theorem depthL_get : ∀ {xs : List D} {i : Nat} {x : D}, xs[i]? = some x → depthD x ≤ depthL xs
  | [], _, _, h => by simp at h
  | y :: ys, 0, x, h => by
    simp at h; subst h
    unfold depthL; omega
  | y :: ys, i + 1, x, h => by
    have := depthL_get (xs := ys) (i := i) (x := x) (by simpa using h)
    unfold depthL; omega
/-- the parts' loop: what one turn wants -/
theorem emp_turn {F : Fz} {t i : Nat} {ds : List D} {v : V} {d : D} {σ : L2.St} {H H' : Hp} {sp : Sp} {N : L2.St → Hp → Prop} {D : Ends} (hsp : sp = spEmp G n) (hd : ds[i]? = some d) (hv : Is G F d v) (ha : allAtL t ds = true) (hn : depthL ds ≤ n) (fh : FH F t H) (em : Em F t H H') (hl : 1 < σ.length)
    (hN : ∀ H2, Em F t H H2 → N (σ.set 1 (some v)) H2) :
    tIfS (fun σ H Q => ∃ v F t d, σ[1]? = some (some v) ∧ Is G F d v ∧ allAt t d = true ∧ FH F t H ∧ ∀ H', Em F t H H' → Q (isSeq d) H') (tDrop (tCall sp [] Never (tCons (tVar 1) tNil))) tNext { D with nx := N, ct := N, bk := D.nx } (σ.set 1 (some v)) H' := by
  subst hsp
  have hs : (σ.set 1 (some v))[1]? = some (some v) := List.getElem?_set_self hl
  refine ⟨v, F, t, d, hs, hv, allAtL_get ha hd, fh.em em, fun H2 e2 => ?_⟩
  have e3 := em.trans e2
  cases qs : isSeq d with
  | false => exact hN H2 e3
  | true =>
    exact ⟨v, hs, v, F, d, t, rfl, hv, allAtL_get ha hd, qs, Nat.le_trans (depthL_get hd) hn, fh.em e3, fun H4 e4 => hN H4 (e3.trans e4)⟩
end
end MV
namespace MV
open PySem PySem.Spec L2
section
variable {G : Gx} {X : Cx} {n : Nat} {F : Fz} {t : Nat} {ds : List D} {vs : List V} {σ : L2.St} {H : Hp} {D : Ends} {ad : Addr}
abbrev empT (G : Gx) (n : Nat) : TS := tIfS (fun σ H Q => ∃ v F t d, σ[1]? = some (some v) ∧ Is G F d v ∧ allAt t d = true ∧ FH F t H ∧ ∀ H', Em F t H H' → Q (isSeq d) H') (tDrop (tCall (spEmp G n) [] Never (tCons (tVar 1) tNil))) tNext
theorem emp_loop (J : It) (hgo : ∀ i H', Em F t H H' → (J.stop i H' ∧ True) ∨ (J.go i H' ∧ i < ds.length ∧ ∀ v H2, J.yld i H' v H2 → H2 = H' ∧ ∃ d, ds[i]? = some d ∧ Is G F d v)) (hs : ds.length ≤ ds.length) (ha : allAtL t ds = true) (hn : depthL ds ≤ n) (fh : FH F t H) (hl : 1 < σ.length)
    (hD : ∀ σ' H', σ'[0]? = σ[0]? → Em F t H H' → D.nx σ' H') :
    ∃ W : Nat → Nat → L2.St → Hp → Prop, (∃ m, W 0 m σ H) ∧ ∀ i m σ H, W i m σ H →
      (J.stop i H ∧ D.nx σ H) ∨ (J.go i H ∧ ∃ N : L2.St → Hp → Prop, (∀ σ' H', N σ' H' → ∃ m', m' < m ∧ W (i + 1) m' σ' H') ∧ ∀ x H', J.yld i H x H' → gName 1 x σ H' fun σ2 H2 => empT G n { D with nx := N, ct := N, bk := D.nx } σ2 H2) := by
  refine ⟨fun i m σ' H' => m = ds.length - i ∧ σ'.length = σ.length ∧ σ'[0]? = σ[0]? ∧ Em F t H H', ⟨_, rfl, rfl, rfl, .refl⟩, ?_⟩
  rintro i m σ' H' ⟨rfl, l', h0, em⟩
  rcases hgo i H' em with ⟨st, _⟩ | ⟨go, hi, yl⟩
  · exact .inl ⟨st, hD σ' H' h0 em⟩
  · refine .inr ⟨go, fun σ2 H2 => σ2.length = σ.length ∧ σ2[0]? = σ[0]? ∧ Em F t H H2, fun σ2 H2 w => ⟨ds.length - (i + 1), by omega, rfl, w⟩, fun v H2 hy => ?_⟩
    obtain ⟨e1, d, hd, hv⟩ := yl v H2 hy
    subst e1
    refine emp_turn rfl hd hv ha hn fh em (by rw [l']; exact hl) fun H3 e3 => ⟨by rw [List.length_set]; exact l', ?_, e3⟩
    rw [List.getElem?_set_ne (by decide)]; exact h0
theorem emp_list {K : PySem.W.Frag} (hF : F.h ad = some (.lst vs)) (hv : IsL G F ds vs) (fh : FH F t H) : ∀ i H', Em F t H H' → ((Itl K ad).stop i H' ∧ True) ∨ ((Itl K ad).go i H' ∧ i < ds.length ∧ ∀ v H2, (Itl K ad).yld i H' v H2 → H2 = H' ∧ ∃ d, ds[i]? = some d ∧ Is G F d v) := fun i H' em => by
  rcases (fh.em em) ad _ hF with q | ⟨_, _, q⟩
  · by_cases hi : i < ds.length
    · have hi2 : i < vs.length := by rw [hv.length]; exact hi
      refine .inr ⟨⟨vs, vs[i], SqL.of q, List.getElem?_eq_getElem hi2⟩, hi, fun v H2 ⟨e, y⟩ => ⟨e, ?_⟩⟩
      obtain ⟨d, h1, h2⟩ := hv.getV (y vs (SqL.of q))
      exact ⟨d, h1, h2⟩
    · exact .inl ⟨⟨vs, SqL.of q, by rw [hv.length]; omega⟩, trivial⟩
  · exact .inl ⟨⟨[], SqL.of q, Nat.zero_le _⟩, trivial⟩
theorem emp_tup {K : PySem.W.Frag} (hK : G.K = K) (hF : SqT G.K F.h ad vs) (hv : IsL G F ds vs) (fh : FH F t H) : ∀ i H', Em F t H H' → ((Itt K ad).stop i H' ∧ True) ∨ ((Itt K ad).go i H' ∧ i < ds.length ∧ ∀ v H2, (Itt K ad).yld i H' v H2 → H2 = H' ∧ ∃ d, ds[i]? = some d ∧ Is G F d v) := fun i H' em => by
  have q := sqT_fh (fh.em em) hF
  rw [hK] at q
  by_cases hi : i < ds.length
  · have hi2 : i < vs.length := by rw [hv.length]; exact hi
    refine .inr ⟨⟨vs, vs[i], q, List.getElem?_eq_getElem hi2⟩, hi, fun v H2 ⟨e, y⟩ => ⟨e, ?_⟩⟩
    obtain ⟨d, h1, h2⟩ := hv.getV (y vs q)
    exact ⟨d, h1, h2⟩
  · exact .inl ⟨⟨vs, q, by rw [hv.length]; omega⟩, trivial⟩
end
end MV
set_option maxHeartbeats 2000000
/-! MVEmp2: `_law_emptied`, the whole def. -/
namespace MV
open PySem PySem.Spec L2

/-- the text of `_law_emptied` is as it should be -/
def empB (sc : Scope) (gn qn : Str) : List Stmt → Bool
  | [.For (.Name q p0) (.Name g p1) [.If (.Call (.Name i1 p2) [.Name q2 p3, .Tuple [.Name l1 p4, .Name t1 p5] k0 p6] [] p7) [.Expr (.Call (.Name e1 p8) [.Name q3 p9] [] p10) p11] [] p12] [] p13,
     .If (.Call (.Name i2 p14) [.Name g2 p15, .Name l2 p16] [] p17) [.Expr (.Call (.Attribute (.Name g3 p18) c1 p19) [] [] p20) p21] [] p22] =>
    decide (q = qn) && decide (q2 = qn) && decide (q3 = qn) && decide (g = gn) && decide (g2 = gn) && decide (g3 = gn) && decide (i1 = "isinstance") && decide (i2 = "isinstance") && decide (l1 = "list") && decide (l2 = "list") && decide (t1 = "tuple") && decide (e1 = "_law_emptied") && decide (c1 = "clear") &&
    locB sc qn && visB sc gn && visB sc qn && nmB gn && nmB qn && glB sc "isinstance" && glB sc "list" && glB sc "tuple" && glB sc "_law_emptied" && lineB p19 p20
  | _ => false
section
variable {Z : Pg} {G : Gx} {k n : Nat} {fa : Addr} {gn qn : Str} {sc : Scope} {X : Cx}
theorem emp_body {body : List Stmt} (hb : empB sc gn qn body = true) (c : CxOk Z G [gn, qn] k true sc X) (own : PassesOwn (model X.prog X.w) X.A X.env X.xe) (hK : G.K = Z.K) (never : ∀ X, Passes Z.CX X Never) (blt : ∀ n ∈ bltN, Z.mg n = none)
    {fd : FuncData} {ps : List Str} (IH : FnOk Z.prog Z.w Z.K Z.mg Z.base Z.CX k fa fd ps (spEmp G n)) (hm : Z.mg "_law_emptied" = some (.ref fa)) (hk : PySem.W.keepIn Z.K (.ref fa) = true) (hbi : Binds Z.K fd ps [])
    {vs : List V} {H : Hp} {Q : VK} {E : XK} (h : spEmp G (n + 1) vs H Q E) : ∃ t, PSs X body t ∧ t { nx := fun _ H' => Q .non H', rt := Q } (L2.start [gn, qn] vs) H := by
  unfold empB at hb
  split at hb
  · rename_i q p0 g p1 i1 p2 q2 p3 l1 p4 t1 p5 k0 p6 p7 e1 p8 q3 p9 p10 p11 p12 p13 i2 p14 g2 p15 l2 p16 p17 g3 p18 c1 p19 p20 p21 p22
    simp only [Bool.and_eq_true, decide_eq_true_eq] at hb
    obtain ⟨⟨⟨⟨⟨⟨⟨⟨⟨⟨⟨⟨⟨⟨⟨⟨⟨⟨⟨⟨⟨⟨rfl, rfl⟩, rfl⟩, rfl⟩, rfl⟩, rfl⟩, rfl⟩, rfl⟩, rfl⟩, rfl⟩, rfl⟩, rfl⟩, rfl⟩, hl⟩, hvg⟩, hvq⟩, hng⟩, hnq⟩, gi⟩, gl⟩, gt⟩, ge⟩, ln⟩ := hb
    obtain ⟨a1, a2⟩ := nm_of hng
    obtain ⟨b1, b2⟩ := nm_of hnq
    have N0 : X.N[0]? = some g3 := by rw [c.hN]; rfl
    have N1 : X.N[1]? = some q3 := by rw [c.hN]; rfl
    have nd : X.N.Nodup := by rw [c.hN]; exact c.nd
    obtain ⟨lq1, lq2⟩ := c.loc _ hl
    have hKX : G.K = X.K := hK.trans c.hK.symm
    have bm : ∀ n ∈ bltN, X.mg n = none := fun n hn => by rw [c.hmg]; exact blt n hn
    have T1 := pt_seq (G := G) (k0 := k0) (p0 := p2) (p1 := p3) (p2 := p4) (p3 := p5) (p4 := p6) (pos := p7) hKX (c.gl _ gi) (bm _ (by decide)) (c.gl _ gl) (bm _ (by decide)) (c.gl _ gt) (bm _ (by decide)) N1 (c.vis _ hvq) b1 b2
    have T2 := pt_lst (G := G) (p0 := p14) (p1 := p15) (p2 := p16) (pos := p17) hKX (c.gl _ gi) (bm _ (by decide)) (c.gl _ gl) (bm _ (by decide)) N0 (c.vis _ hvg) a1 a2
    have IH' : FnOk X.prog X.w X.K X.mg X.base Z.CX k fa fd ps (spEmp G n) := by rw [c.hpr, c.hw, c.hK, c.hmg, c.hbs]; exact IH
    have C1 : PE X (.Call (.Name "_law_emptied" p8) [.Name q3 p9] [] p10) (tCall (spEmp G n) [] Never (tCons (tVar 1) tNil)) := pe_call IH' (c.room.mono (by omega)) (c.gl _ ge) (by rw [c.hmg]; exact hm) (by rw [c.hK]; exact hk) (by rw [c.hK]; exact hbi) .nil (never X) (pa_cons (pe_var N1 (c.vis _ hvq) b1 b2) pa_nil rfl) (by decide) rfl rfl
    have body1 := ps_if (pos := p12) T1 (pss_one (ps_expr (pos := p11) C1 rfl)) pss_nil
    have C2 := pe_bm0 (apos := p19) (cpos := p20) PySem.F.plainAttrs_list PySem.F.slot_list_clear PySem.F.type_list_clear (mt_clear (X := X)) (pe_var (pos := p18) N0 (c.vis _ hvg) a1 a2) (abase_of rfl) ln
    have st2 := ps_if (pos := p22) T2 (pss_one (ps_expr (pos := p21) C2 rfl)) pss_nil
    obtain ⟨v, F, x, t, rfl, hv, ha, hsq, hd, fh, hQ⟩ := h
    -- the end
    have fin : ∀ σ' H', σ'[0]? = (L2.start [g3, q3] [v])[0]? → Em F t H H' → tIfS (fun σ H Q => ∃ v F t d, σ[0]? = some (some v) ∧ Is G F d v ∧ allAt t d = true ∧ FH F t H ∧ Q (isTy (.d d) .list) H) (tDrop (tBM0 X.K "list" rClear (tVar 0))) tNext { nx := fun _ H' => Q .non H', rt := Q } σ' H' := fun σ' H' h0 em => by
      have hs0 : σ'[0]? = some (some v) := h0
      refine ⟨v, F, t, x, hs0, hv, ha, fh.em em, ?_⟩
      cases x with
      | tup xs => exact hQ H' em
      | lst u xs =>
        rw [Is] at hv
        obtain ⟨a, vs, rfl, w1, w2, w3⟩ := hv
        have hu : u = t := by
          unfold allAt at ha
          rw [Bool.and_eq_true, decide_eq_true_eq] at ha
          exact ha.1
        have go : ∀ ys, H' a = some (.lst ys) → (tDrop (tBM0 X.K "list" rClear (tVar 0))) { nx := fun _ H' => Q .non H', rt := Q } σ' H' := fun ys hy =>
          ⟨.ref a, hs0, .inl ⟨rfl, ys, SqL.of hy⟩, a, ys, rfl, rfl, hy, hQ _ (em.trans (Em.clear w1 (w2.trans hu) hy))⟩
        rcases (fh.em em) a _ w1 with r | ⟨_, _, r⟩
        · exact go _ r
        · exact go _ r
      | _ => cases hsq
    cases x with
    | tup xs =>
      have hv' := hv
      rw [Is] at hv
      obtain ⟨a, vs, rfl, w1, w2⟩ := hv
      refine ⟨_, pss_cons (ps_for own c.calm (pi_tup (pe_var N0 (c.vis _ hvg) a1 a2)) (pg_name nd N1 lq1 lq2) (pss_one body1) (fun _ => rfl)) (pss_one st2), ?_⟩
      refine ⟨.ref a, rfl, a, rfl, ⟨vs, hKX ▸ sqT_fh fh w1⟩, ?_⟩
      exact emp_loop (Itt X.K a) (emp_tup hKX w1 w2 fh) (Nat.le_refl _) (by unfold allAt at ha; exact ha) (by unfold depthD at hd; omega) fh (by show 1 < 2; decide) fin
    | lst u xs =>
      have hv' := hv
      rw [Is] at hv
      obtain ⟨a, vs, rfl, w1, w2, w3⟩ := hv
      refine ⟨_, pss_cons (ps_for own c.calm (pi_list (pe_var N0 (c.vis _ hvg) a1 a2)) (pg_name nd N1 lq1 lq2) (pss_one body1) (fun _ => rfl)) (pss_one st2), ?_⟩
      refine ⟨.ref a, rfl, a, rfl, ?_, ?_⟩
      · rcases fh a _ w1 with r | ⟨_, _, r⟩
        · exact ⟨_, SqL.of r⟩
        · exact ⟨_, SqL.of r⟩
      exact emp_loop (Itl X.K a) (emp_list w1 w3 fh) (Nat.le_refl _) (by unfold allAt at ha; rw [Bool.and_eq_true] at ha; exact ha.2) (by unfold depthD at hd; omega) fh (by show 1 < 2; decide) fin
    | _ => cases hsq
  · cases hb
/-- `_law_emptied` keeps its promise -/
theorem emp_ok {name qual : Str} {params : Arguments} {body : List Stmt} {scope : Scope} {dV kV doc pm cdv ct oc : Value} {an od : Option Addr} {osl : Array (Option Value)}
    (lk : Z.K.lookup fa = some ⟨oc, od, .func (PySem.W.fnOf name qual params body scope dV kV doc pm an cdv ct), osl⟩) (hcd : PySem.W.codeIn Z.K cdv qual = true) (S : FnScope [gn, qn] [gn] scope) (hb : empB scope gn qn body = true) (hK : G.K = Z.K) (never : ∀ X, Passes Z.CX X Never) (blt : ∀ n ∈ bltN, Z.mg n = none)
    (hm : Z.mg "_law_emptied" = some (.ref fa)) (hk : PySem.W.keepIn Z.K (.ref fa) = true) (hbi : Binds Z.K (PySem.W.fnOf name qual params body scope dV kV doc pm an cdv ct) [gn] []) :
    ∀ n, FnOk Z.prog Z.w Z.K Z.mg Z.base Z.CX (k + 2 * n + 1) fa (PySem.W.fnOf name qual params body scope dV kV doc pm an cdv ct) [gn] (spEmp G n)
  | 0 => fn_of lk hcd S (fun vs H Q E ⟨v, F, x, t, e, _⟩ => by rw [e]; rfl) fun A outer s H vs Q E hr ⟨v, F, x, t, _, _, _, h1, h2, _⟩ => by
    exfalso
    cases x <;> first | (cases h1; done) | (unfold depthD at h2; omega)
  | n + 1 => by
    have IH := emp_ok lk hcd S hb hK never blt hm hk hbi n
    refine fn_of lk hcd S (fun vs H Q E ⟨v, F, x, t, e, _⟩ => by rw [e]; rfl) fun A outer s H vs Q E hr h => ?_
    refine emp_body (k := k + 2 * n + 1) hb ⟨rfl, rfl, rfl, rfl, rfl, rfl, S.nd, rfl, hr, fun y q => ?_, fun y q => ?_, fun y q => ?_, fun _ => rfl⟩ (passes_of rfl) hK never blt IH hm hk hbi h
    · unfold visB at q
      split at q
      · exact .inl ‹_›
      · exact .inr (.inl ‹_›)
      · exact .inr (.inr ‹_›)
      · cases q
    · unfold locB at q
      refine ⟨?_, .inl rfl⟩
      split at q
      · exact .inl ‹_›
      · exact .inr ‹_›
      · cases q
    · unfold glB at q
      split at q
      · rename_i z; exact z
      · cases q
end
end MV
/-! MVInfo: what the mini text knows, as lists. -/
namespace MV
open PySem
structure InfoL where
  glob : List (Nat × D)
  ccon : List ((Nat × Nat) × D)
  meth : List ((Nat × Nat) × Nat)
  init : List (Nat × Nat)
  eqm : List (Nat × Nat)
  lenm : List (Nat × Nat)
  iterm : List (Nat × Nat)
def InfoL.info (l : InfoL) : Info where
  glob g := l.glob.lookup g
  ccon c k := l.ccon.lookup (c, k)
  meth c m := l.meth.lookup (c, m)
  init c := l.init.lookup c
  eqm c := l.eqm.lookup c
  lenm c := l.lenm.lookup c
  iterm c := l.iterm.lookup c
end MV
set_option maxHeartbeats 2000000
/-! MVHead: what the head tells, and what follows for the checked text. -/
namespace MV
open PySem PySem.Spec L2

/-! ### addresses -/
/-- a property's getter -/
def pa (K : PySem.W.Frag) (C : Addr) (m : Str) : Addr := match PySem.W.recIn K (He.ma K C m) "property" with
  | some (.ref g :: _) => g
  | _ => 0
inductive Pth where
  | glo (x : Str)
  | meth (c m : Str)
  | prop (c m : Str)
  deriving DecidableEq
def Pth.adr (p : Pth) (K : PySem.W.Frag) : Addr := match p with
  | .glo x => He.ga K x
  | .meth c m => He.ma K (He.ga K c) m
  | .prop c m => pa K (He.ga K c) m

/-- a def of the text: its number, where its function object stands, its text -/
structure Ent where
  num : Nat
  pth : Pth
  name : Str
  qual : Str
  params : Arguments
  body : List Stmt
  scope : Scope
  N : List Str
  ps : List Str
structure EntOk (T : Tab) (fns : Nat → Option FnI) (e : Ent) : Prop where
  d : ∃ d, fns e.num = some d ∧ d.nl = e.N.length ∧ d.np = e.ps.length ∧ okSs T e.N d.br e.scope d.body e.body = true
  sc : FnScope e.N e.ps e.scope
  bind : ∀ (kV doc pm : Value) (an : Option Addr) (cdv ct : Value) (us : List Value), us.length = e.ps.length → bindArgs (PySem.W.fnOf e.name e.qual e.params e.body e.scope .none kV doc pm an cdv ct) ⟨us, []⟩ = pure (e.ps.zip us)
/-- the function object is there -/
def FunE (K : PySem.W.Frag) (e : Ent) : Prop := ∃ (oc : Value) (od : Option Addr) (kV doc pm : Value) (an : Option Addr) (cdv ct : Value) (osl : Array (Option Value)),
  K.lookup (e.pth.adr K) = some ⟨oc, od, .func (PySem.W.fnOf e.name e.qual e.params e.body e.scope .none kV doc pm an cdv ct), osl⟩ ∧ PySem.W.codeIn K cdv e.qual = true
section
variable {Z : Pg} {G : Gx} {T : Tab} {I : Info} {fns : Nat → Option FnI} {fuel n k : Nat} {e : Ent}
theorem fn_ent (f : Facts Z G T I (callF I fns fuel n) k) (h : EntOk T fns e) (r : FunE Z.K e) : Z.Fn G (callF I fns fuel (n + 1)) (k + 2) (e.pth.adr Z.K) e.num e.ps.length := by
  obtain ⟨d, h1, h2, h3, h4⟩ := h.d
  obtain ⟨oc, od, kV, doc, pm, an, cdv, ct, osl, r1, r2⟩ := r
  exact fn_ok f h1 h2 h3 rfl r1 r2 h.sc (.all (h.bind kV doc pm an cdv ct)) h4
theorem fn_zero (h : EntOk T fns e) (r : FunE Z.K e) : Z.Fn G (callF I fns fuel 0) (k + 1) (e.pth.adr Z.K) e.num e.ps.length := by
  obtain ⟨oc, od, kV, doc, pm, an, cdv, ct, osl, r1, r2⟩ := r
  refine ⟨_, e.ps, fn_of r1 r2 h.sc (fun vs H Q E h => h.1) (fun A outer s H vs Q E hr h => ?_), .all (h.bind kV doc pm an cdv ct)⟩
  obtain ⟨_, F, t, args, R, h⟩ := h
  exact h.elim
end

/-! ### facts, as one truth value -/
def dV : D → Option V
  | .non => some .non
  | .bl b => some (.bl b)
  | .int i => some (.int i)
  | .str x => if x.length ≤ 16777216 then some (.str x) else none
  | _ => none
theorem dV_is {G : Gx} {F : Fz} {d : D} {v : V} (h : dV d = some v) : Is G F d v := by
  cases d with
  | non => cases h; rw [Is]
  | bl b => cases h; rw [Is]
  | int i => cases h; rw [Is]
  | str x =>
    unfold dV at h
    dsimp only at h
    split at h
    · rename_i c; cases h; rw [Is]; exact ⟨rfl, c⟩
    · cases h
  | _ => cases h
def tyNames : List String := ["int", "bool", "str", "tuple", "list"]
def eq2 (a : Option Bool) (b : Bool) : Bool := decide (a = some b)
def cnameOf (cls : List (Nat × Str)) (c : Nat) : Str := (cls.lookup c).getD ⟨#[]⟩
def fnameOf (flds : List (Nat × Str)) (f : Nat) : Str := (flds.lookup f).getD ⟨#[f]⟩
/-- the classes, the fields, what iter(self.f) walks -/
structure Hd where
  cls : List (Nat × Str)
  flds : List (Nat × Str)
  itf : Nat

section
variable (T : Tab) (I : InfoL) (hd : Hd) (ents : List (Nat × Pth × Nat)) (K : PySem.W.Frag)
def isRef (o : Option (Option Value)) (a : Addr) : Bool := He.eqO o (some (some (.ref a)))
def clsB (x : Str) : Bool := (He.Fa.cls x).ok K && He.eqO (PySem.W.findIn K (.ref (He.ga K x)) "__class__") (some (some (.builtin "object.__class__"))) && eq2 (PySem.W.mroIn K (He.ga K x) (.type "object")) true &&
  tyNames.all (fun n => eq2 (PySem.W.kitOne K (.ref (He.ga K x)) (.type n)) false) && isRef (PySem.W.nsIn K mainGlobals x) (He.ga K x)
def exB : Bool :=
  (hd.cls.all fun (c, x) => clsB K x) &&
  He.eqO (PySem.W.specialIn K (.builtin "object.__class__") "__get__") (some (some (.builtin "getset_descriptor.__get__"))) && eq2 (PySem.W.takesIn K (.builtin "object.__class__")) true &&
  (bltN.all fun n => He.eqO (PySem.W.nsIn K mainGlobals n) (some none)) &&
  (tyNames.all fun n => He.eqO (PySem.W.nsIn K mainGlobals (Str.ofString n)) (some none)) &&
  (T.gl.all fun (n, g) => match I.info.glob g with
    | some d => (match dV d, PySem.W.nsIn K mainGlobals n with
      | some v, some (some u) => He.relB v u
      | _, _ => false)
    | none => false) &&
  (T.cc.all fun (cn, c, an, k) => isRef (PySem.W.nsIn K mainGlobals cn) (He.ga K cn) && PySem.W.readsIn K (He.ga K cn) (.type "type") && He.eqO (PySem.W.specialIn K (.ref (He.ga K cn)) "__getattribute__") (some (some (.builtin "type.__getattribute__"))) &&
    match I.info.ccon c k with
    | some d => (match dV d, PySem.W.findCls K (.ref (He.ga K cn)) (.type "type") an with
      | some v, some (.val u) => He.relB v u
      | _, _ => false)
    | none => false) &&
  (T.fld.all fun (n, f) => decide (fnameOf hd.flds f = n) && hd.cls.all fun (c, x) => (He.Fa.noat x n).ok K) &&
  (T.ty.all fun (n, t) => match t with
    | .cls c subs => decide (cnameOf hd.cls c = n) && isRef (PySem.W.nsIn K mainGlobals n) (He.ga K n) && ("NoneType" :: tyNames).all (fun m => eq2 (PySem.W.kitOne K (.type m) (.ref (He.ga K n))) false) &&
      hd.cls.all (fun (c', x') => eq2 (PySem.W.kitOne K (.ref (He.ga K x')) (.ref (He.ga K n))) (subs.contains c'))
    | .int => decide (n = "int") | .bool => decide (n = "bool") | .str => decide (n = "str") | .tuple => decide (n = "tuple") | .list => decide (n = "list")) &&
  (T.fn.all fun (n, f, np) => ents.contains (f, .glo n, np) && isRef (PySem.W.nsIn K mainGlobals n) (He.ga K n) && PySem.W.keepIn K (.ref (He.ga K n))) &&
  (T.mks.all fun (n, c, np) => match hd.cls.lookup c, I.init.lookup c with
    | some x, some f => decide (x = n) && (He.Fa.mkr x).ok K && ents.contains (f, .meth x "__init__", np + 1) && isRef (PySem.W.nsIn K mainGlobals n) (He.ga K n)
    | _, _ => false)
def methB (f : Nat) (x n : Str) (np : Nat) : Bool := isRef (PySem.W.findIn K (.ref (He.ga K x)) n) (He.ma K (He.ga K x) n) && PySem.W.isFn K (.ref (He.ma K (He.ga K x) n)) && ents.contains (f, .meth x n, np)
def propB (f : Nat) (x n : Str) : Bool := isRef (PySem.W.findIn K (.ref (He.ga K x)) n) (He.ma K (He.ga K x) n) && He.eqO (PySem.W.specialIn K (.ref (He.ma K (He.ga K x) n)) "__get__") (some (some (.builtin "property.__get__"))) && eq2 (PySem.W.takesIn K (.ref (He.ma K (He.ga K x) n))) true &&
  (match PySem.W.recIn K (He.ma K (He.ga K x) n) "property" with
    | some (.ref g :: _) => true
    | _ => false) && ents.contains (f, .prop x n, 1)
def oneB (l : List (Nat × Nat)) (n : Str) (np : Nat) : Bool := match l with
  | [] => true
  | [(c, f)] => (match hd.cls.lookup c with
    | some x => methB ents K f x n np
    | none => false)
  | _ => false
def exM : Bool := oneB hd ents K I.eqm "__eq__" 2 && oneB hd ents K I.lenm "__len__" 1 && (match I.iterm with
    | [] => true
    | [(c, _)] => (match hd.cls.lookup c with
      | some x => isRef (PySem.W.findIn K (.ref (He.ga K x)) "__iter__") (He.ma K (He.ga K x) "__iter__") && PySem.W.isFn K (.ref (He.ma K (He.ga K x) "__iter__")) && (He.Fa.noat x (fnameOf hd.flds hd.itf)).ok K && (He.Fa.free "iter").ok K
      | none => false)
    | _ => false) &&
  (T.prop.all fun (n, m) => match I.meth.filter fun q => q.1.2 == m with
    | [((c, _), f)] => (match hd.cls.lookup c with
      | some x => propB ents K f x n
      | none => false)
    | _ => false)
/-- names and numbers: nothing of the heap -/
def exN : Bool := decide ((hd.cls.map Prod.fst).Nodup) && decide ((hd.flds.map Prod.fst).Nodup) && decide ((hd.flds.map Prod.snd).Nodup) && hd.flds.all fun (_, n) => decide (2 ≤ n.length)
end
end MV
set_option maxHeartbeats 2000000
/-! MVHead2: from what the head tells to Facts. -/
namespace MV
open PySem PySem.Spec L2

def gx (hd : Hd) (K : PySem.W.Frag) : Gx := ⟨K, fun c => He.ga K (cnameOf hd.cls c), fun c => ∃ x, hd.cls.lookup c = some x, fnameOf hd.flds⟩
theorem lookup_mem {α β : Type} [BEq α] [LawfulBEq α] {a : α} {b : β} : ∀ {l : List (α × β)}, l.lookup a = some b → (a, b) ∈ l
  | [], h => by cases h
  | (x, y) :: l, h => by
    rw [List.lookup_cons] at h
    split at h
    · rename_i e
      cases h
      rw [eq_of_beq e]
      exact List.mem_cons_self
    · exact List.mem_cons_of_mem _ (lookup_mem h)
theorem fname_inj {l : List (Nat × Str)} (h1 : (l.map Prod.fst).Nodup) (h2 : (l.map Prod.snd).Nodup) (h3 : ∀ p ∈ l, 2 ≤ p.2.length) (i j : Nat) (h : fnameOf l i = fnameOf l j) : i = j := by
  have inj : ∀ {l : List (Nat × Str)}, (l.map Prod.snd).Nodup → ∀ p ∈ l, ∀ q ∈ l, p.2 = q.2 → p = q := fun {l} hn => by
    induction l with
    | nil => intro p hp; cases hp
    | cons x l ih =>
      rw [List.map_cons, List.nodup_cons] at hn
      intro p hp q hq e
      rcases List.mem_cons.mp hp with k1 | k1 <;> rcases List.mem_cons.mp hq with k2 | k2
      · rw [k1, k2]
      · exact absurd (List.mem_map.mpr ⟨q, k2, by rw [← e, k1]⟩) hn.1
      · exact absurd (List.mem_map.mpr ⟨p, k1, by rw [e, k2]⟩) hn.1
      · exact ih hn.2 p k1 q k2 e
  unfold fnameOf at h
  cases q1 : l.lookup i with
  | none =>
    cases q2 : l.lookup j with
    | none =>
      rw [q1, q2] at h
      have h : (⟨#[i]⟩ : Str) = ⟨#[j]⟩ := h
      simpa using h
    | some y =>
      rw [q1, q2] at h
      have h : (⟨#[i]⟩ : Str) = y := h
      have := h3 _ (lookup_mem q2)
      rw [← h] at this
      exact absurd this (by show ¬ 2 ≤ 1; omega)
  | some x =>
    cases q2 : l.lookup j with
    | none =>
      rw [q1, q2] at h
      have h : x = (⟨#[j]⟩ : Str) := h
      have := h3 _ (lookup_mem q1)
      rw [h] at this
      exact absurd this (by show ¬ 2 ≤ 1; omega)
    | some y =>
      rw [q1, q2] at h
      have h : x = y := h
      have := inj h2 _ (lookup_mem q1) _ (lookup_mem q2) h
      exact congrArg Prod.fst this
theorem isRef_ok {o : Option (Option Value)} {a : Addr} (h : isRef o a = true) : o = some (some (.ref a)) := He.eqO_ok h
theorem eq2_ok {a : Option Bool} {b : Bool} (h : eq2 a b = true) : a = some b := of_decide_eq_true h
/-- an __iter__ of the text -/
structure ItE (hd : Hd) (fns : Nat → Option FnI) (f : Nat) (x : Str) (K : PySem.W.Frag) : Prop where
  mini : fns f = some ⟨1, 1, [], [.ret (.attr (.var 0) hd.itf)]⟩
  run : ∃ (name qual : Str) (params : Arguments) (scope : Scope) (dV kV doc pm cdv ct oc : Value) (dn od : Option Addr) (osl : Array (Option Value)) (sn : Str) (p1 p2 p3 p4 p5 p6 : Pos),
    K.lookup (He.ma K (He.ga K x) "__iter__") = some ⟨oc, od, .func (PySem.W.fnOf name qual params [.Return (some (.Call (.Name "iter" p1) [.Attribute (.Name sn p2) (fnameOf hd.flds hd.itf) p3] [] p4)) p5] scope dV kV doc pm dn cdv ct), osl⟩ ∧ PySem.W.codeIn K cdv qual = true ∧ FnScope [sn] [sn] scope ∧
    Binds K (PySem.W.fnOf name qual params [.Return (some (.Call (.Name "iter" p1) [.Attribute (.Name sn p2) (fnameOf hd.flds hd.itf) p3] [] p4)) p5] scope dV kV doc pm dn cdv ct) [sn] [] ∧ glB scope "iter" = true ∧ nmB sn = true
theorem iter_mini {I : Info} {fns : Nat → Option FnI} {fuel f fl : Nat} (h : fns f = some ⟨1, 1, [], [.ret (.attr (.var 0) fl)]⟩) : ∀ (n t c : Nat) (ns : List Nat) (xs ys : List D) (fin : List (Option Sl)), callF I fns fuel n t f [.d (.obj c ns xs)] = .ok (.d (.tup ys)) fin → fldAt fl ns xs = some (.tup ys)
  | 0, t, c, ns, xs, ys, fin, e => by cases e
  | n + 1, t, c, ns, xs, ys, fin, e => by
    unfold callF at e
    rw [h] at e
    dsimp only at e
    rw [if_pos ⟨rfl, rfl⟩] at e
    unfold execs exec ev ev bnd rd at e
    dsimp only [Env.get, List.map, List.replicate, List.cons_append, List.nil_append, List.getElem?_cons_zero, Option.join_some, objOf, bnd] at e
    cases q : fldAt fl ns xs with
    | none => rw [q] at e; cases e
    | some d =>
      rw [q] at e
      have e : CallRes.ok (.d d) [none] = .ok (.d (.tup ys)) fin := e
      cases e
      rfl

abbrev entsOf (es : List Ent) : List (Nat × Pth × Nat) := es.map fun e => (e.num, e.pth, e.ps.length)
theorem ent_of {es : List Ent} {f np : Nat} {p : Pth} (h : (entsOf es).contains (f, p, np) = true) : ∃ e ∈ es, e.num = f ∧ e.pth = p ∧ e.ps.length = np := by
  rw [List.contains_eq_mem, decide_eq_true_eq] at h
  obtain ⟨e, h1, h2⟩ := List.mem_map.mp h
  cases h2
  exact ⟨e, h1, rfl, rfl, rfl⟩
section
variable {Z : Pg} {T : Tab} {I : InfoL} {hd : Hd} {es : List Ent} {fns : Nat → Option FnI} {fuel n k : Nat} {h : Heap}
/-- what the head has told -/
structure HeadOk (Z : Pg) (T : Tab) (I : InfoL) (hd : Hd) (es : List Ent) (fns : Nat → Option FnI) (h : Heap) : Prop where
  kin : Z.K.In h
  ns : h.Ns mainGlobals Z.mg
  b : exB T I hd (entsOf es) Z.K = true
  m : exM T I hd (entsOf es) Z.K = true
  nm : exN hd = true
  never : ∀ X, Passes Z.CX X Never
  ok : ∀ e ∈ es, EntOk T fns e
  fe : ∀ e ∈ es, FunE Z.K e
  it : ∀ c f x, I.iterm = [(c, f)] → hd.cls.lookup c = some x → ItE hd fns f x Z.K
theorem all_of {α : Type} {l : List α} {p : α → Bool} (h : l.all p = true) {a : α} (ha : a ∈ l) : p a = true := List.all_eq_true.mp h a ha
theorem mem_of {α : Type} [BEq α] [LawfulBEq α] {l : List α} {a : α} (h : l.contains a = true) : a ∈ l := by
  rw [List.contains_iff_mem] at h; exact h
theorem facts_of (o : HeadOk Z T I hd es fns h) (all : ∀ e ∈ es, Z.Fn (gx hd Z.K) (callF I.info fns fuel n) k (e.pth.adr Z.K) e.num e.ps.length) : Facts Z (gx hd Z.K) T I.info (callF I.info fns fuel n) k := by
  have hb := o.b
  unfold exB at hb
  simp only [Bool.and_eq_true] at hb
  obtain ⟨⟨⟨⟨⟨⟨⟨⟨⟨⟨hcls, hdg⟩, hdt⟩, hblt⟩, htn⟩, hgl⟩, hcc⟩, hfld⟩, hty⟩, hfn⟩, hmk⟩ := hb
  have hm := o.m
  unfold exM at hm
  simp only [Bool.and_eq_true] at hm
  obtain ⟨⟨⟨heq, hlen⟩, hit⟩, hprop⟩ := hm
  have hn := o.nm
  unfold exN at hn
  simp only [Bool.and_eq_true, decide_eq_true_eq] at hn
  obtain ⟨⟨⟨n1, n2⟩, n3⟩, n4⟩ := hn
  have cn : ∀ {c x}, hd.cls.lookup c = some x → (gx hd Z.K).ca c = He.ga Z.K x := fun {c x} q => by
    show He.ga Z.K (cnameOf hd.cls c) = _
    unfold cnameOf; rw [q]; rfl
  have ckx : ∀ {c x}, hd.cls.lookup c = some x → clsB Z.K x = true := fun {c x} q => all_of hcls (lookup_mem q)
  have inj : ∀ i j, fnameOf hd.flds i = fnameOf hd.flds j → i = j := fname_inj n2 n3 fun p hp => of_decide_eq_true (all_of n4 hp)
  have clsx : ∀ c, (gx hd Z.K).ck c → ∃ x, hd.cls.lookup c = some x ∧ Cls Z.K (He.ga Z.K x) ∧ PySem.W.findIn Z.K (.ref (He.ga Z.K x)) "__class__" = some (some (.builtin "object.__class__")) ∧ PySem.W.mroIn Z.K (He.ga Z.K x) (.type "object") = some true ∧ (∀ n ∈ tyNames, PySem.W.kitOne Z.K (.ref (He.ga Z.K x)) (.type n) = some false) ∧ Z.mg x = some (.ref (He.ga Z.K x)) := fun c ⟨x, q⟩ => by
    have := ckx q
    unfold clsB at this
    simp only [Bool.and_eq_true] at this
    obtain ⟨⟨⟨⟨a1, a2⟩, a3⟩, a4⟩, a5⟩ := this
    exact ⟨x, q, He.cls_ok a1, He.eqO_ok a2, eq2_ok a3, fun n hn => eq2_ok (all_of a4 hn), PySem.W.mg_of o.kin o.ns (isRef_ok a5)⟩
  have mgr : ∀ {x : Str}, isRef (PySem.W.nsIn Z.K mainGlobals x) (He.ga Z.K x) = true → Z.mg x = some (.ref (He.ga Z.K x)) := fun q => PySem.W.mg_of o.kin o.ns (isRef_ok q)
  refine ⟨rfl, ⟨inj, fun c hc => ?_⟩, ⟨fun c hc => ?_, fun c hc => ?_, He.eqO_ok hdg, eq2_ok hdt, fun c hc => ?_, fun c n hc hn => ?_⟩, o.never, fun n hn => PySem.W.mg_none_of o.kin o.ns (He.eqO_ok (all_of hblt hn)), fun n g hg => ?_, fun cnm c an kk hg => ?_, fun n f hg => ?_, fun n t hg => ?_, fun n f np hg => ?_, fun n c np hg => ?_, fun n m hg => ?_, ?_, ?_, ?_⟩
  · obtain ⟨x, q, a, _⟩ := clsx c hc; rw [cn q]; exact a
  · obtain ⟨x, q, a, _⟩ := clsx c hc; rw [cn q]; exact a
  · obtain ⟨x, q, _, a, _⟩ := clsx c hc; rw [cn q]; exact a
  · obtain ⟨x, q, _, _, a, _⟩ := clsx c hc; rw [cn q]; exact a
  · obtain ⟨x, q, _, _, _, a, _⟩ := clsx c hc; rw [cn q]; exact a n hn
  · have h2 := all_of hgl (mem_of hg)
    dsimp only at h2
    split at h2
    · rename_i d hd
      split at h2
      · rename_i v u hv hu
        exact ⟨d, v, u, hd, PySem.W.mg_of o.kin o.ns hu, He.relB_ok h2, fun F => dV_is hv⟩
      · cases h2
    · cases h2
  · have h2 := all_of hcc (mem_of hg)
    dsimp only at h2
    simp only [Bool.and_eq_true] at h2
    obtain ⟨⟨⟨a1, a2⟩, a3⟩, h2⟩ := h2
    split at h2
    · rename_i d hd
      split at h2
      · rename_i v u hv hu
        exact ⟨_, _, v, u, d, mgr a1, ⟨a2, He.eqO_ok a3⟩, ⟨hu, He.relB_ok h2⟩, hd, fun F => dV_is hv⟩
      · cases h2
    · cases h2
  · have h2 := all_of hfld (mem_of hg)
    dsimp only at h2
    simp only [Bool.and_eq_true, decide_eq_true_eq] at h2
    refine ⟨h2.1, fun c hc => ?_⟩
    obtain ⟨x, q, _⟩ := clsx c hc
    rw [cn q]
    show NoAttr Z.K _ (fnameOf hd.flds f)
    rw [h2.1]
    exact He.noat_ok (all_of h2.2 (lookup_mem q))
  · have h2 := all_of hty (mem_of hg)
    dsimp only at h2
    have bt : ∀ (m : String), m ∈ tyNames → n = Str.ofString m → bootBuiltins n = some (.type m) → n ≠ "__name__" → ∃ u uv, ClsV u (.type m) ∧ RelV u uv ∧ (Z.mg n = some uv ∨ (Z.mg n = none ∧ bootBuiltins n = some uv ∧ n ≠ "__name__")) := fun m hm e hb hn => by
      subst e
      exact ⟨.ty m, .type m, .ty m, rfl, .inr ⟨PySem.W.mg_none_of o.kin o.ns (He.eqO_ok (all_of htn hm)), hb, hn⟩⟩
    cases t with
    | cls c subs =>
      dsimp only at h2
      simp only [Bool.and_eq_true, decide_eq_true_eq] at h2
      obtain ⟨⟨⟨a1, a2⟩, a3⟩, a4⟩ := h2
      have ec : (gx hd Z.K).ca c = He.ga Z.K n := by
        show He.ga Z.K (cnameOf hd.cls c) = _
        rw [a1]
      refine ⟨⟨fun m hm => ?_, fun c' hc => ?_⟩, .ref (He.ga Z.K n), .ref (He.ga Z.K n), ?_, rfl, .inl (mgr a2)⟩
      · rw [ec]
        exact eq2_ok (all_of a3 hm)
      · obtain ⟨x, q, _⟩ := clsx c' hc
        rw [ec, cn q]
        exact eq2_ok (all_of a4 (lookup_mem q))
      · show ClsV _ (.ref ((gx hd Z.K).ca c))
        rw [ec]
        exact .own _
    | int => exact ⟨trivial, bt "int" (by decide) (of_decide_eq_true h2) (by rw [of_decide_eq_true h2]; decide +kernel) (by rw [of_decide_eq_true h2]; decide +kernel)⟩
    | bool => exact ⟨trivial, bt "bool" (by decide) (of_decide_eq_true h2) (by rw [of_decide_eq_true h2]; decide +kernel) (by rw [of_decide_eq_true h2]; decide +kernel)⟩
    | str => exact ⟨trivial, bt "str" (by decide) (of_decide_eq_true h2) (by rw [of_decide_eq_true h2]; decide +kernel) (by rw [of_decide_eq_true h2]; decide +kernel)⟩
    | tuple => exact ⟨trivial, bt "tuple" (by decide) (of_decide_eq_true h2) (by rw [of_decide_eq_true h2]; decide +kernel) (by rw [of_decide_eq_true h2]; decide +kernel)⟩
    | list => exact ⟨trivial, bt "list" (by decide) (of_decide_eq_true h2) (by rw [of_decide_eq_true h2]; decide +kernel) (by rw [of_decide_eq_true h2]; decide +kernel)⟩
  · have h2 := all_of hfn (mem_of hg)
    dsimp only at h2
    simp only [Bool.and_eq_true] at h2
    obtain ⟨⟨a1, a2⟩, a3⟩ := h2
    obtain ⟨e, e1, rfl, e3, rfl⟩ := ent_of a1
    have := all e e1
    rw [e3] at this
    exact ⟨_, this, mgr a2, a3⟩
  · have h2 := all_of hmk (mem_of hg)
    dsimp only at h2
    split at h2
    · rename_i x f q1 q2
      simp only [Bool.and_eq_true, decide_eq_true_eq] at h2
      obtain ⟨⟨⟨a1, a2⟩, a3⟩, a4⟩ := h2
      subst a1
      obtain ⟨e, e1, rfl, e3, e4⟩ := ent_of a3
      have := all e e1
      rw [e3, e4] at this
      refine ⟨_, e.num, q2, ⟨_, q1⟩, ?_, this, ?_⟩
      · rw [cn q1]; exact He.mkr_ok a2
      · rw [cn q1]; exact mgr a4
    · cases h2
  · have h2 := all_of hprop (mem_of hg)
    dsimp only at h2
    split at h2
    · rename_i c mm f hf
      split at h2
      · rename_i x q
        unfold propB at h2
        simp only [Bool.and_eq_true] at h2
        obtain ⟨⟨⟨⟨a1, a2⟩, a3⟩, a4⟩, a5⟩ := h2
        obtain ⟨e, e1, rfl, e3, e4⟩ := ent_of a5
        have := all e e1
        rw [e3, e4] at this
        refine ⟨c, e.num, He.ma Z.K (He.ga Z.K x) n, _, fun c' f' hq => ?_, ?_, ?_, this⟩
        · have hmem := List.mem_filter (p := fun q : (Nat × Nat) × Nat => q.1.2 == m).mpr ⟨lookup_mem (show I.meth.lookup (c', m) = some f' from hq), show ((((c', m), f') : (Nat × Nat) × Nat).1.2 == m) = true by simp⟩
          rw [hf, List.mem_singleton] at hmem
          cases hmem
          exact ⟨rfl, rfl⟩
        · obtain ⟨x', q', a, _⟩ := clsx c ⟨x, q⟩; rw [cn q']; exact a
        · rw [cn q]
          refine ⟨isRef_ok a1, He.eqO_ok a2, eq2_ok a3, ?_⟩
          split at a4
          · rename_i g rest hr
            refine ⟨rest, ?_⟩
            have : pa Z.K (He.ga Z.K x) n = g := by unfold pa; rw [hr]
            show _ = some (Value.ref (pa Z.K (He.ga Z.K x) n) :: rest)
            rw [hr, this]
          · cases a4
      · cases h2
    · cases h2
  · unfold oneB at hlen
    split at hlen
    · rename_i q; exact .inl fun c => by show I.lenm.lookup c = none; rw [q]; rfl
    · rename_i c f q
      split at hlen
      · rename_i x q2
        unfold methB at hlen
        simp only [Bool.and_eq_true] at hlen
        obtain ⟨⟨a1, a2⟩, a3⟩ := hlen
        obtain ⟨e, e1, rfl, e3, e4⟩ := ent_of a3
        have := all e e1
        rw [e3, e4] at this
        refine .inr ⟨c, e.num, _, fun c' f' hq => ?_, ?_, a2, this⟩
        · have hq : I.lenm.lookup c' = some f' := hq
          rw [q] at hq
          have := lookup_mem hq
          rw [List.mem_singleton] at this
          cases this; exact ⟨rfl, rfl⟩
        · rw [cn q2]; exact isRef_ok a1
      · cases hlen
    · cases hlen
  · unfold oneB at heq
    split at heq
    · rename_i q; exact .inl fun c => by show I.eqm.lookup c = none; rw [q]; rfl
    · rename_i c f q
      split at heq
      · rename_i x q2
        unfold methB at heq
        simp only [Bool.and_eq_true] at heq
        obtain ⟨⟨a1, a2⟩, a3⟩ := heq
        obtain ⟨e, e1, rfl, e3, e4⟩ := ent_of a3
        have := all e e1
        rw [e3, e4] at this
        refine .inr ⟨c, e.num, _, fun c' f' hq => ?_, ?_, a2, this⟩
        · have hq : I.eqm.lookup c' = some f' := hq
          rw [q] at hq
          have := lookup_mem hq
          rw [List.mem_singleton] at this
          cases this; exact ⟨rfl, rfl⟩
        · rw [cn q2]; exact isRef_ok a1
      · cases heq
    · cases heq
  · split at hit
    · rename_i q
      intro N top sc X tg x m cx hx pins s σ H R F e c ns xs e1 I0 R0 q0 h
      refine thn (hx.run pins s σ H _ I0 h) fun v s1 ⟨z, H1, I1, rz, F1, e2, d, q1, R1, i1, k1, a1, t1⟩ => ?_
      rw [q0] at q1
      cases q1
      unfold itemsM at k1
      dsimp only at k1
      obtain ⟨f', hf', k1⟩ := k1.opt
      have hf' : I.iterm.lookup c = some f' := hf'
      rw [q] at hf'
      cases hf'
    · rename_i c f q
      split at hit
      · rename_i x q2
        simp only [Bool.and_eq_true] at hit
        obtain ⟨⟨⟨a1, a2⟩, a3⟩, a4⟩ := hit
        obtain ⟨i1, i2⟩ := o.it c f x q q2
        obtain ⟨x', q', ac, _⟩ := clsx c ⟨x, q2⟩
        rw [q2] at q'
        cases q'
        refine ownI_of (c0 := c) (fl := hd.itf) (fi := f) (fa := He.ma Z.K (He.ga Z.K x) "__iter__") ⟨inj, fun c hc => ?_⟩ rfl o.never (fun c' f' hq => ?_) (iter_mini i1 n) ?_ a2 ⟨i2, PySem.W.mg_none_of o.kin o.ns (He.eqO_ok a4)⟩ ?_ ?_
        · obtain ⟨x, q, a, _⟩ := clsx c hc; rw [cn q]; exact a
        · have hq : I.iterm.lookup c' = some f' := hq
          rw [q] at hq
          have := lookup_mem hq
          rw [List.mem_singleton] at this
          cases this; exact ⟨rfl, rfl⟩
        · rw [cn q2]; exact isRef_ok a1
        · rw [cn q2]; exact ac
        · rw [cn q2]; exact He.noat_ok a3
      · cases hit
    · cases hit
/-- every def of the text keeps its promise, at every depth -/
theorem all_fn (o : HeadOk Z T I hd es fns h) : ∀ (n : Nat), ∀ e ∈ es, Z.Fn (gx hd Z.K) (callF I.info fns fuel n) (2 * n + 1) (e.pth.adr Z.K) e.num e.ps.length
  | 0, e, he => fn_zero (k := 0) (o.ok e he) (o.fe e he)
  | n + 1, e, he => fn_ent (k := 2 * n + 1) (facts_of o (all_fn o n)) (o.ok e he) (o.fe e he)
theorem facts_at (o : HeadOk Z T I hd es fns h) (n : Nat) : Facts Z (gx hd Z.K) T I.info (callF I.info fns fuel n) (2 * n + 1) := facts_of o (all_fn o n)
end
end MV
set_option maxHeartbeats 2000000
/-! MVLaw: the hook, law's own def. -/
namespace MV
open PySem PySem.Spec L2

/-! ### the hook -/
def asM (g : Addr → Option Obj) : Nat → List Addr
  | 0 => [mainGlobals, PySem.cStatics]
  | n + 1 => He.growD g (asM g n)
def fnV (K : PySem.W.Frag) (a : Addr) : He.FnV := match K.lookup a with
  | some ⟨_, _, .func fd, _⟩ => some (fd.name, fd.qualname, fd.params, fd.body, fd.scope, fd.globals, fd.closure, fd.defaults, fd.builtins)
  | _ => none
def Ent.val (d : Ent) : He.FnV := some (d.name, d.qual, d.params, .stmts d.body, d.scope, mainGlobals, [], .none, builtinsNs)
def Ent.codeB (K : PySem.W.Frag) (d : Ent) : Bool := match K.lookup (d.pth.adr K) with
  | some ⟨_, _, .func fd, _⟩ => PySem.W.codeIn K fd.code d.qual
  | _ => false
abbrev AlM : Type := Bool × List He.FnV
def obsM (rs : List Ent) (ex : PySem.W.Frag → Bool) (K : PySem.W.Frag) : AlM := (ex K && rs.all (Ent.codeB K), rs.map fun e => fnV K (e.pth.adr K))
def valM (rs : List Ent) : AlM := (true, rs.map Ent.val)
def SaysM (rs : List Ent) (ex : PySem.W.Frag → Bool) (K : PySem.W.Frag) : Prop := obsM rs ex K = valM rs
def obsMG (n : Nat) (rs : List Ent) (ex : PySem.W.Frag → Bool) (g : Addr → Option Obj) : AlM := obsM rs ex (He.frG g (asM g n))
def hookM (n : Nat) (rs : List Ent) (ex : PySem.W.Frag → Bool) : PySem.W.Hook where
  α := AlM
  obs := fun s => obsMG n rs ex s.heap.get?
  val := fun _ => valM rs
  says := fun _ h => ∃ K : PySem.W.Frag, K.In h ∧ SaysM rs ex K
  of := fun _ _ e => ⟨_, He.frG_in, e⟩
  keeps := fun _ _ _ ⟨K, hK, c⟩ k => ⟨K, PySem.W.Frag.In.keeps hK k, c⟩
theorem obsMG_eq {n : Nat} {rs : List Ent} {ex : PySem.W.Frag → Bool} {g : Addr → Option Obj} {s : Shared} (h : ∀ a, g a = s.heap.get? a) : obsMG n rs ex g = (hookM n rs ex).obs s := by
  have e : g = s.heap.get? := funext h
  rw [e] <;> rfl
section
variable {rs : List Ent} {ex : PySem.W.Frag → Bool} {K : PySem.W.Frag}
theorem SaysM.exb (c : SaysM rs ex K) : ex K = true := (Bool.and_eq_true_iff.mp (show (ex K && rs.all (Ent.codeB K)) = true from congrArg (fun z : AlM => z.1) c)).1
theorem map_val : ∀ {rs : List Ent}, (rs.map fun e => fnV K (e.pth.adr K)) = rs.map Ent.val → ∀ e ∈ rs, fnV K (e.pth.adr K) = e.val
  | [], _, e, h => by cases h
  | x :: rs, q, e, h => by
    rw [List.map_cons, List.map_cons] at q
    injection q with q1 q2
    rcases List.mem_cons.mp h with rfl | h
    · exact q1
    · exact map_val q2 e h
theorem SaysM.fe (c : SaysM rs ex K) : ∀ e ∈ rs, FunE K e := fun d hd => by
  have c2 : Ent.codeB K d = true := List.all_eq_true.mp (Bool.and_eq_true_iff.mp (show (ex K && rs.all (Ent.codeB K)) = true from congrArg (fun z : AlM => z.1) c)).2 d hd
  have e := map_val (congrArg (fun z : AlM => z.2) c) d hd
  unfold Ent.codeB at c2
  unfold fnV at e
  unfold FunE
  cases q : K.lookup (d.pth.adr K) with
  | none => rw [q] at c2; cases c2
  | some o =>
    obtain ⟨oc, od, dt, osl⟩ := o
    rw [q] at c2 e
    cases dt with
    | func fd =>
      obtain ⟨n1, n2, n3, n4, n5, n6, n7, n8, n9, n10, n11, n12, n13, n14, n15⟩ := fd
      have e2 : (some (n1, n2, n3, n4, n5, n6, n7, n8, n15) : He.FnV) = some (d.name, d.qual, d.params, .stmts d.body, d.scope, mainGlobals, [], .none, builtinsNs) := e
      simp only [Option.some.injEq, Prod.mk.injEq] at e2
      obtain ⟨h1, h2, h3, h4, h5, h6, h7, h8, h9⟩ := e2
      subst h1 h2 h3 h4 h5 h6 h7 h8 h9
      exact ⟨oc, od, n9, n10, n11, n12, n13, n14, osl, rfl, c2⟩
    | _ => cases c2
end

/-! ### law -/
def spLaw (K : PySem.W.Frag) : Sp := fun vs H Q _ => ∃ (a : Addr) (ns : List Int), vs = [.ref a] ∧ ns.length ≤ 63 ∧ SqL K H a (ns.map V.int) ∧ ∀ H', Q (.bl true) H'
section
variable {Z : Pg} {T : Tab} {I : InfoL} {hd : Hd} {es : List Ent} {fns : Nat → Option FnI} {fuel n : Nat} {h : Heap}
theorem stOk_of {k : Nat} {N ps : List Str} {scope : Scope} (S : FnScope N ps scope) {cdv : Value} {qual : Str} {f : Addr} {A : Around} {outer : List PySem.Env} {s : Shared} {H : Hp} {E : XK} {G : Gx} (hr : Room (k + 1) (A.deeper (PyProof.Rows.envOfC qual scope s.heap.objs.size f cdv))) :
    StOk Z G N k scope (cxOf Z.CX Z.prog Z.w Z.K Z.mg Z.base N qual scope f cdv A outer s H E) := by
  refine ⟨⟨rfl, rfl, rfl, rfl, rfl, rfl, S.nd, rfl, hr, fun y q => ?_, fun y q => ?_, fun y q => ?_, fun _ => rfl⟩, passes_of rfl, ?_⟩
  · unfold visB at q
    split at q
    · exact .inl ‹_›
    · exact .inr (.inl ‹_›)
    · exact .inr (.inr ‹_›)
    · cases q
  · unfold locB at q
    refine ⟨?_, .inl rfl⟩
    split at q
    · exact .inl ‹_›
    · exact .inr ‹_›
    · cases q
  · unfold glB at q
    split at q
    · rename_i z; exact z
    · cases q
  · show (if scope.kind.isAnnotationScope then _ else scope.kind) = _
    rw [S.kind]; rfl
theorem law_ok (o : HeadOk Z T I hd es fns h) {e eE : Ent} {x gn qn : Str} {body : List S} (hn : 12 ≤ n) {oc : Value} {od : Option Addr} {kV doc pm : Value} {an : Option Addr} {cdv ct : Value} {osl : Array (Option Value)}
    (r1 : Z.K.lookup (e.pth.adr Z.K) = some ⟨oc, od, .func (PySem.W.fnOf e.name e.qual e.params e.body e.scope .none kV doc pm an cdv ct), osl⟩) (r2 : PySem.W.codeIn Z.K cdv e.qual = true) (hS : FnScope e.N [x] e.scope) (hok : okTop T e.N e.scope body e.body = true)
    (fE : FunE Z.K eE) (pE : eE.pth = .glo "_law_emptied") (SE : FnScope [gn, qn] [gn] eE.scope) (bE : empB eE.scope gn qn eE.body = true) (gE : isRef (PySem.W.nsIn Z.K mainGlobals "_law_emptied") (He.ga Z.K "_law_emptied") = true) (kE : PySem.W.keepIn Z.K (.ref (He.ga Z.K "_law_emptied")) = true)
    (biE : ∀ (kV doc pm : Value) (an : Option Addr) (cdv ct : Value) (us : List Value), us.length = 1 → bindArgs (PySem.W.fnOf eE.name eE.qual eE.params eE.body eE.scope .none kV doc pm an cdv ct) ⟨us, []⟩ = pure ([gn].zip us))
    (maths : ∀ ns : List Int, ns.length ≤ 63 → ∃ e', execs I.info (callF I.info fns fuel n) [] fuel body ⟨0, some (.d (.scr ns)) :: List.replicate (e.N.length - 1) none⟩ = .ok (.ret (.d (.bl true))) e') :
    FnOk Z.prog Z.w Z.K Z.mg Z.base Z.CX (2 * n + 3) (e.pth.adr Z.K) (PySem.W.fnOf e.name e.qual e.params e.body e.scope .none kV doc pm an cdv ct) [x] (spLaw Z.K) := by
  refine fn_of r1 r2 hS (fun vs H Q E ⟨a, ns, e, _⟩ => by rw [e]; rfl) fun A outer s H vs Q E hr hsp => ?_
  obtain ⟨oc', od', kV', doc', pm', an', cdv', ct', osl', q1, q2⟩ := fE
  have blt : ∀ n ∈ bltN, Z.mg n = none := (facts_at (fuel := fuel) o n).blt
  have eE := emp_ok (G := gx hd Z.K) (Z := Z) (k := 2 * n - 23) q1 q2 SE bE rfl o.never blt (by rw [pE]; exact PySem.W.mg_of o.kin o.ns (isRef_ok gE)) (by rw [pE]; exact kE) (.all (biE kV' doc' pm' an' cdv' ct')) 12
  have lv : 2 * n - 23 + 2 * 12 + 1 = 2 * n + 1 + 1 := by omega
  rw [lv] at eE
  have top := sndTop (fuel := fuel) (facts_at (fuel := fuel) o n) (stOk_of (G := gx hd Z.K) (H := H) (outer := outer) (E := E) hS hr) eE (Nat.le_refl 12) (by rw [pE]; exact PySem.W.mg_of o.kin o.ns (isRef_ok gE)) (by rw [pE]; exact kE) (.all (biE kV' doc' pm' an' cdv' ct')) body e.body hok
  refine ⟨_, top, ?_⟩
  obtain ⟨a, ns, rfl, hl, hq, hQ⟩ := hsp
  obtain ⟨e', hm⟩ := maths ns hl
  have es : L2.start e.N [.ref a] = some (.ref a) :: List.replicate (e.N.length - 1) none := rfl
  rw [es]
  have noown : ∀ i c, Env.get ⟨0, some (.d (.scr ns)) :: List.replicate (e.N.length - 1) none⟩ i = some (.own c) → False := fun i c hh => by
    cases i with
    | zero => cases hh
    | succ i =>
      unfold Env.get at hh
      dsimp only at hh
      rw [List.getElem?_cons_succ, List.getElem?_replicate] at hh
      split at hh <;> cases hh
  refine ⟨H, some (.ref a) :: List.replicate (e.N.length - 1) none, ⟨H, fun _ => 0⟩, ⟨0, some (.d (.scr ns)) :: List.replicate (e.N.length - 1) none⟩, ⟨fun _ _ h => h, by simp, fun i x hx => ?_, fun i c hc => (noown i c hc).elim, fun i j c c' a h1 => (noown i c h1).elim, fun _ _ _ => Nat.le_refl _⟩, ⟨fun _ h => h, fun a ⟨i, c, h1, _⟩ => (noown i c h1).elim, fun _ _ => rfl⟩, ?_⟩
  · cases i with
    | zero =>
      have hx : some (Sl.d (.scr ns)) = some (.d x) := hx
      cases hx
      exact ⟨.ref a, rfl, by rw [Is]; exact ⟨a, rfl, hq⟩⟩
    | succ i =>
      exfalso
      unfold Env.get at hx
      dsimp only at hx
      rw [List.getElem?_cons_succ, List.getElem?_replicate] at hx
      split at hx <;> cases hx
  · unfold ExS
    rw [hm]
    intro F' σ' H' R' S' v r
    have : v = .bl true := by
      have r : Is (gx hd Z.K) F' (.bl true) v := r
      rw [Is] at r; exact r
    subst this
    exact hQ H'
end
end MV
/-! MVWp: what a run of the mini text gives, step by step. -/
namespace MV
open PySem

theorem pr_eq {p q : Prop} (h : p → q) (h2 : q → p) : p = q := propext ⟨h, h2⟩
theorem get_mk {t : Nat} {l : List (Option Sl)} {i : Nat} : Env.get ⟨t, l⟩ i = (l[i]?).join := rfl
theorem set_mk {t : Nat} {l : List (Option Sl)} {i : Nat} {s : Option Sl} : Env.set ⟨t, l⟩ i s = ⟨t, l.set i s⟩ := rfl
/-- keeps simp out of what comes after -/
class TgU : Type where
instance instU : TgU := {}
abbrev Tg {α : Type} (_x : α) : Type := TgU
/-- a branch; it is not walked by itself -/
structure brK (c a b : Prop) [Tg (a, b)] : Prop where
  t : c → a
  f : ¬ c → b
theorem brK_q {c a a' b b' : Prop} (h : a = a') (h2 : b = b') : brK c a b = brK c a' b' := by subst h h2; rfl
theorem brK_true {a b : Prop} : brK True a b = a := propext ⟨fun h => h.t trivial, fun h => ⟨fun _ => h, fun n => absurd trivial n⟩⟩
theorem brK_false {a b : Prop} : brK False a b = b := propext ⟨fun h => h.f id, fun h => ⟨fun n => n.elim, fun _ => h⟩⟩
/-- an opened branch: walked by itself -/
structure brU (c a b : Prop) : Prop where
  t : c → a
  f : ¬ c → b
theorem brK_open {c a b : Prop} : brK c a b = brU c a b := propext ⟨fun h => ⟨h.t, h.f⟩, fun h => ⟨h.t, h.f⟩⟩
theorem brU_true {a b : Prop} : brU True a b = a := propext ⟨fun h => h.t trivial, fun h => ⟨fun _ => h, fun n => absurd trivial n⟩⟩
theorem brU_false {a b : Prop} : brU False a b = b := propext ⟨fun h => h.f id, fun h => ⟨fun n => n.elim, fun _ => h⟩⟩
theorem brK_if {c a b : Prop} [Decidable c] : (if c then a else b) = brK c a b := by
  by_cases h : c
  · rw [if_pos h]; exact propext ⟨fun x => ⟨fun _ => x, fun n => absurd h n⟩, fun x => x.t h⟩
  · rw [if_neg h]; exact propext ⟨fun x => ⟨fun n => absurd n h, fun _ => x⟩, fun x => x.f h⟩
/-- the run ends well, with Q -/
@[irreducible] def Wp {α : Type} (m : M α) (e : Env) (Q : α → Env → Prop) (_t : Tg Q := instU) : Prop := match m e with
  | .ok a e' => Q a e'
  | _ => False
section
variable {α β : Type} {m : M α} {f : α → M β} {e : Env} {Q : α → Env → Prop} {R : β → Env → Prop} {I : Info} {P : Phi} {br : List Nat} {fuel : Nat}
theorem Wp.mono {Q' : α → Env → Prop} (h : Wp m e Q) (k : ∀ a e, Q a e → Q' a e) : Wp m e Q' := by
  unfold Wp at *
  cases q : m e with
  | ok a e1 => rw [q] at h; exact k _ _ h
  | _ => rw [q] at h; exact h.elim
theorem wp_eq (h : Wp m e Q) : ∃ a e', m e = .ok a e' ∧ Q a e' := by
  unfold Wp at h
  cases q : m e with
  | ok a e1 => rw [q] at h; exact ⟨a, e1, rfl, h⟩
  | _ => rw [q] at h; exact h.elim
theorem wp_q {Q Q' : α → Env → Prop} (h : ∀ a e, Q a e = Q' a e) : Wp m e Q = Wp m e Q' := by
  have : Q = Q' := funext fun a => funext fun e => h a e
  subst this; rfl
theorem wp_ret {a : α} : Wp (ret a) e Q = Q a e := by with_unfolding_all exact pr_eq id id
theorem wp_bnd : Wp (bnd m f) e R = Wp m e fun a e1 => Wp (f a) e1 R := by
  unfold Wp bnd
  cases q : m e <;> rfl
theorem wp_bad : Wp (bad : M α) e Q = False := by with_unfolding_all exact pr_eq id id
theorem wp_some {a : α} : Wp (optM (some a)) e Q = Q a e := by with_unfolding_all exact pr_eq id id
theorem wp_none : Wp (optM (none : Option α)) e Q = False := by with_unfolding_all exact pr_eq id id
theorem wp_if {c : Prop} [Decidable c] {m n : M α} : Wp (if c then m else n) e Q = if c then Wp m e Q else Wp n e Q := by
  split <;> rfl
/-- from a slot's content -/
def slotK (e : Env) (i : Nat) (K : W → Prop) [Tg (e, i, K)] : Option Sl → Prop
  | some (.d x) => K (.d x)
  | some (.own _) => K (.at_ i)
  | none => False
theorem slotK_d {i : Nat} {K : W → Prop} {x : D} : slotK e i K (some (.d x)) = K (.d x) := pr_eq id id
theorem slotK_own {i : Nat} {K : W → Prop} {c : Cell} : slotK e i K (some (.own c)) = K (.at_ i) := pr_eq id id
theorem wp_var {i : Nat} {Q : W → Env → Prop} : Wp (ev I P (.var i)) e Q = slotK e i (fun w => Q w e) (e.get i) := by
  unfold Wp; rw [ev]; dsimp only
  cases q : e.get i with
  | none => rfl
  | some s => cases s <;> rfl
theorem wp_rd_d {x : D} {Q : Sl → Env → Prop} : Wp (rd (.d x)) e Q = Q (.d x) e := by with_unfolding_all exact pr_eq id id
theorem wp_rd_new {c : Cell} {Q : Sl → Env → Prop} : Wp (rd (.new c)) e Q = Q (.own c) e := by with_unfolding_all exact pr_eq id id
def getK (K : Sl → Prop) [Tg K] : Option Sl → Prop
  | some s => K s
  | none => False
theorem getK_some {K : Sl → Prop} {x : Sl} : getK K (some x) = K x := pr_eq id id
theorem wp_rd_at {i : Nat} {Q : Sl → Env → Prop} : Wp (rd (.at_ i)) e Q = getK (fun s => Q s e) (e.get i) := by
  unfold Wp rd; dsimp only
  cases q : e.get i <;> rfl
theorem wp_frz_d {x : D} {Q : D → Env → Prop} : Wp (frz (.d x)) e Q = Q x e := by with_unfolding_all exact pr_eq id id
theorem wp_frz_new {c : Cell} {Q : D → Env → Prop} : Wp (frz (.new c)) e Q = Q (c.toD e.t) e := by with_unfolding_all exact pr_eq id id
def frzK (e : Env) (i : Nat) (Q : D → Env → Prop) [Tg (e, i, Q)] : Option Sl → Prop
  | some (.d x) => Q x e
  | some (.own c) => Q (c.toD e.t) (e.set i (some (.d (c.toD e.t))))
  | none => False
theorem frzK_d {i : Nat} {Q : D → Env → Prop} {x : D} : frzK e i Q (some (.d x)) = Q x e := pr_eq id id
theorem frzK_own {i : Nat} {Q : D → Env → Prop} {c : Cell} : frzK e i Q (some (.own c)) = Q (c.toD e.t) (e.set i (some (.d (c.toD e.t)))) := pr_eq id id
theorem wp_frz_at {i : Nat} {Q : D → Env → Prop} : Wp (frz (.at_ i)) e Q = frzK e i Q (e.get i) := by
  unfold Wp frz; dsimp only
  cases q : e.get i with
  | none => rfl
  | some s => cases s <;> rfl
theorem wp_sto_d {x : D} {Q : Sl → Env → Prop} : Wp (sto (.d x)) e Q = Q (.d x) e := by with_unfolding_all exact pr_eq id id
theorem wp_sto_new {c : Cell} {Q : Sl → Env → Prop} : Wp (sto (.new c)) e Q = Q (.own c) e := by with_unfolding_all exact pr_eq id id
theorem wp_sto_at {i : Nat} {Q : Sl → Env → Prop} : Wp (sto (.at_ i)) e Q = frzK e i (fun x e => Q (.d x) e) (e.get i) := by
  unfold sto
  show Wp (bnd (frz (.at_ i)) fun x => ret (.d x)) e Q = _
  rw [wp_bnd, wp_frz_at]
  with_unfolding_all rfl
theorem wp_setSl {i : Nat} {s : Option Sl} {Q : Unit → Env → Prop} : Wp (setSl i s) e Q = Q () (e.set i s) := by with_unfolding_all exact pr_eq id id
def ownK (K : List D → Prop) [Tg K] : Option Sl → Prop
  | some (.own (.lst xs)) => K xs
  | _ => False
theorem ownK_lst {K : List D → Prop} {xs : List D} : ownK K (some (.own (.lst xs))) = K xs := pr_eq id id
theorem wp_ownLst {i : Nat} {Q : List D → Env → Prop} : Wp (ownLst i) e Q = ownK (fun xs => Q xs e) (e.get i) := by
  unfold Wp ownLst
  cases q : e.get i with
  | none => rfl
  | some s => cases s with
    | d _ => rfl
    | own c => cases c <;> rfl
theorem wp_tr {w : W} {Q : Bool → Env → Prop} : Wp (tr w) e Q = Wp (bnd (rd w) fun s => optM (truth s)) e Q := pr_eq id id
theorem wp_noX {m : M α} : Wp (noX m) e Q = Wp m e Q := by
  unfold Wp noX; cases m e <;> rfl
/-- a call by its specification -/
theorem wp_callM {f : Nat} {as : List AV} {Q : W → Env → Prop} {sls : List Sl} {w : Sl} {fin : List (Option Sl)} (hn : (refsOf as).Nodup) (ha : argSl e as = some sls) (h : P e.t f sls = .ok w fin) (hl : fin.length = as.length) (k : Q (slW w) (setFin e as fin)) : Wp (callM P f as) e Q := by
  unfold Wp callM
  rw [if_pos hn, ha]
  dsimp only
  rw [h]
  dsimp only
  rw [if_pos hl]
  exact k
/-- a loop, by an invariant over what is left -/
theorem wp_forL {bd : D → M Unit} {body : M Fl} {Q : Fl → Env → Prop} (J : List D → Env → Prop) (hend : ∀ e, J [] e → Q .next e)
    (hstep : ∀ x xs e, J (x :: xs) e → Wp (bd x) e fun _ e1 => Wp body e1 fun fl e2 => match fl with
      | .next => J xs e2
      | .cont => J xs e2
      | .brk => Q .next e2
      | .ret s => Q (.ret s) e2) : ∀ xs e, J xs e → Wp (forL bd body xs) e Q
  | [], e, h => by rw [forL, wp_ret]; exact hend e h
  | x :: xs, e, h => by
    rw [forL, wp_bnd]
    refine (hstep x xs e h).mono fun _ e1 h1 => ?_
    rw [wp_bnd]
    refine h1.mono fun fl e2 h2 => ?_
    cases fl with
    | next => exact wp_forL J hend hstep xs e2 h2
    | cont => exact wp_forL J hend hstep xs e2 h2
    | brk => dsimp only; rw [wp_ret]; exact h2
    | ret s => dsimp only; rw [wp_ret]; exact h2
theorem wv_cst {Q : W → Env → Prop} {d : D} : Wp (ev I P (.cst d)) e Q = Q (.d d) e := by rw [ev]; with_unfolding_all rfl
theorem wv_glob {Q : W → Env → Prop} {g : Nat} : Wp (ev I P (.glob g)) e Q = Wp (optM (I.glob g)) e fun d e1 => Q (.d d) e1 := by rw [ev]; simp only [wp_bnd, wp_ret]; repeat (refine wp_q fun _ _ => ?_; try simp only [wp_bnd, wp_ret])
theorem wv_ccon {Q : W → Env → Prop} {c k : Nat} : Wp (ev I P (.ccon c k)) e Q = Wp (optM (I.ccon c k)) e fun d e1 => Q (.d d) e1 := by rw [ev]; simp only [wp_bnd, wp_ret]; repeat (refine wp_q fun _ _ => ?_; try simp only [wp_bnd, wp_ret])
theorem wv_tup {Q : W → Env → Prop} {es : List E} : Wp (ev I P (.tup es)) e Q = Wp (evs I P es) e fun xs e1 => Q (.d (.tup xs)) e1 := by rw [ev]; simp only [wp_bnd, wp_ret]; repeat (refine wp_q fun _ _ => ?_; try simp only [wp_bnd, wp_ret])
theorem wv_lst {Q : W → Env → Prop} {es : List E} : Wp (ev I P (.lst es)) e Q = Wp (evs I P es) e fun xs e1 => Q (.new (.lst xs)) e1 := by rw [ev]; simp only [wp_bnd, wp_ret]; repeat (refine wp_q fun _ _ => ?_; try simp only [wp_bnd, wp_ret])
theorem wv_bin {Q : W → Env → Prop} {o : Bop} {a b : E} : Wp (ev I P (.bin o a b)) e Q = Wp (ev I P a) e fun x e1 => Wp (ev I P b) e1 fun y e2 => Wp (rd x) e2 fun s e3 => Wp (rd y) e3 fun t e4 => Wp (optM (binop o s t)) e4 Q := by rw [ev]; simp only [wp_bnd, wp_ret]; repeat (refine wp_q fun _ _ => ?_; try simp only [wp_bnd, wp_ret])
theorem wv_cmp {Q : W → Env → Prop} {o : Cop} {a b : E} : Wp (ev I P (.cmp o a b)) e Q = Wp (ev I P a) e fun x e1 => Wp (ev I P b) e1 fun y e2 => Wp (cmpM I P o x y) e2 Q := by rw [ev]; simp only [wp_bnd, wp_ret]; repeat (refine wp_q fun _ _ => ?_; try simp only [wp_bnd, wp_ret])
theorem wv_isNone {Q : W → Env → Prop} {a : E} : Wp (ev I P (.isNone a)) e Q = Wp (ev I P a) e fun x e1 => Wp (rd x) e1 fun s e2 => Q (.d (.bl (isNonS s))) e2 := by rw [ev]; simp only [wp_bnd, wp_ret]; repeat (refine wp_q fun _ _ => ?_; try simp only [wp_bnd, wp_ret])
theorem wv_notNone {Q : W → Env → Prop} {a : E} : Wp (ev I P (.notNone a)) e Q = Wp (ev I P a) e fun x e1 => Wp (rd x) e1 fun s e2 => Q (.d (.bl (!isNonS s))) e2 := by rw [ev]; simp only [wp_bnd, wp_ret]; repeat (refine wp_q fun _ _ => ?_; try simp only [wp_bnd, wp_ret])
theorem wv_not {Q : W → Env → Prop} {a : E} : Wp (ev I P (.not a)) e Q = Wp (ev I P a) e fun x e1 => Wp (tr x) e1 fun b e2 => Q (.d (.bl (!b))) e2 := by rw [ev]; simp only [wp_bnd, wp_ret]; repeat (refine wp_q fun _ _ => ?_; try simp only [wp_bnd, wp_ret])
theorem wv_and {Q : W → Env → Prop} {a b : E} : Wp (ev I P (.and a b)) e Q = Wp (ev I P a) e fun x e1 => Wp (tr x) e1 fun k e2 => brK (k = true) (Wp (ev I P b) e2 Q) (Q x e2) := by rw [ev]; simp only [wp_bnd, wp_if, brK_if, wp_ret]; repeat (refine wp_q fun _ _ => ?_; try simp only [wp_bnd, wp_if, brK_if, wp_ret])
theorem wv_or {Q : W → Env → Prop} {a b : E} : Wp (ev I P (.or a b)) e Q = Wp (ev I P a) e fun x e1 => Wp (tr x) e1 fun k e2 => brK (k = true) (Q x e2) (Wp (ev I P b) e2 Q) := by rw [ev]; simp only [wp_bnd, wp_if, brK_if, wp_ret]; repeat (refine wp_q fun _ _ => ?_; try simp only [wp_bnd, wp_if, brK_if, wp_ret])
theorem wv_ite {Q : W → Env → Prop} {c a b : E} : Wp (ev I P (.ite c a b)) e Q = Wp (ev I P c) e fun x e1 => Wp (tr x) e1 fun k e2 => brK (k = true) (Wp (ev I P a) e2 Q) (Wp (ev I P b) e2 Q) := by rw [ev]; simp only [wp_bnd, wp_if, brK_if, wp_ret]; repeat (refine wp_q fun _ _ => ?_; try simp only [wp_bnd, wp_if, brK_if, wp_ret])
theorem wv_idx {Q : W → Env → Prop} {a i : E} : Wp (ev I P (.idx a i)) e Q = Wp (ev I P a) e fun x e1 => Wp (ev I P i) e1 fun y e2 => Wp (rd x) e2 fun s e3 => Wp (rd y) e3 fun t e4 => Wp (optM (item s t)) e4 fun d e5 => Q (.d d) e5 := by rw [ev]; simp only [wp_bnd, wp_ret]; repeat (refine wp_q fun _ _ => ?_; try simp only [wp_bnd, wp_ret])
theorem wv_slc {Q : W → Env → Prop} {a : E} {lo hi : Option E} : Wp (ev I P (.slc a lo hi)) e Q = Wp (ev I P a) e fun x e1 => Wp (evO I P lo) e1 fun l e2 => Wp (evO I P hi) e2 fun h e3 => Wp (rd x) e3 fun s e4 => Wp (optM (sliced s l h)) e4 Q := by rw [ev]; simp only [wp_bnd, wp_ret]; repeat (refine wp_q fun _ _ => ?_; try simp only [wp_bnd, wp_ret])
theorem wv_rev {Q : W → Env → Prop} {a : E} : Wp (ev I P (.rev a)) e Q = Wp (ev I P a) e fun x e1 => Wp (rd x) e1 fun s e2 => Wp (optM (reved s)) e2 Q := by rw [ev]; simp only [wp_bnd, wp_ret]; repeat (refine wp_q fun _ _ => ?_; try simp only [wp_bnd, wp_ret])
theorem wv_prim {Q : W → Env → Prop} {p : Prim} {a : E} : Wp (ev I P (.prim p a)) e Q = Wp (ev I P a) e fun x e1 => Wp (primM I P p x) e1 Q := by rw [ev]; simp only [wp_bnd, wp_ret]
theorem wv_prim2 {Q : W → Env → Prop} {p : Prim} {a b : E} : Wp (ev I P (.prim2 p a b)) e Q = Wp (ev I P a) e fun x e1 => Wp (ev I P b) e1 fun y e2 => Wp (rd x) e2 fun s e3 => Wp (rd y) e3 fun t e4 => Wp (optM (primb p s t)) e4 Q := by rw [ev]; simp only [wp_bnd, wp_ret]; repeat (refine wp_q fun _ _ => ?_; try simp only [wp_bnd, wp_ret])
theorem wv_joinc {Q : W → Env → Prop} {s : Str} {b : E} : Wp (ev I P (.join (.cst (.str s)) b)) e Q = Wp (ev I P b) e fun y e1 => Wp (rd y) e1 fun t e2 => Wp (optM (joined s t)) e2 Q := by rw [ev]; simp only [wp_bnd, wv_cst]; repeat (refine wp_q fun _ _ => ?_; try simp only [wp_bnd, wv_cst])
theorem wv_isin {Q : W → Env → Prop} {a : E} {ts : List Ty} : Wp (ev I P (.isin a ts)) e Q = Wp (ev I P a) e fun x e1 => Wp (rd x) e1 fun s e2 => brK (tyOk s = true) (Q (.d (.bl (ts.any (isTy s)))) e2) (False) := by rw [ev]; simp only [wp_bnd, wp_if, brK_if, wp_ret, wp_bad]; repeat (refine wp_q fun _ _ => ?_; try simp only [wp_bnd, wp_if, brK_if, wp_ret, wp_bad])
theorem wv_call {Q : W → Env → Prop} {f : Nat} {as : List E} : Wp (ev I P (.call f as)) e Q = Wp (evA I P as) e fun avs e1 => Wp (callM P f avs) e1 Q := by rw [ev]; simp only [wp_bnd, wp_ret]
theorem wv_callL {Q : W → Env → Prop} {f : Nat} {as : List E} : Wp (ev I P (.callL f as)) e Q = Wp (evL I P as) e fun q e1 => Wp (callLM P f q.1 q.2) e1 Q := by rw [ev]; simp only [wp_bnd, wp_ret]
def popK (e : Env) (i : Nat) (Q : W → Env → Prop) [Tg (e, i, Q)] : Option Sl → Prop
  | some (.own (.lst xs)) => match xs.getLast? with
    | some x => Q (.d x) (e.set i (some (.own (.lst xs.dropLast))))
    | none => False
  | _ => False
theorem popK_lst {i : Nat} {Q : W → Env → Prop} {xs : List D} {x : D} : popK e i Q (some (.own (.lst (xs ++ [x])))) = Q (.d x) (e.set i (some (.own (.lst xs)))) := by
  unfold popK; simp
theorem wv_pop {Q : W → Env → Prop} {i : Nat} : Wp (ev I P (.pop i)) e Q = popK e i Q (e.get i) := by
  unfold Wp; rw [ev]; dsimp only
  cases q : e.get i with
  | none => rfl
  | some s => cases s with
    | d _ => rfl
    | own c => cases c with
      | obj _ _ _ => rfl
      | lst xs =>
        unfold popK; dsimp only
        cases xs.getLast? <;> rfl
theorem wv_attr {Q : W → Env → Prop} {a : E} {f : Nat} : Wp (ev I P (.attr a f)) e Q = Wp (ev I P a) e fun x e1 => Wp (rd x) e1 fun s e2 => Wp (match objOf s with | some (_, ns, xs) => bnd (optM (fldAt f ns xs)) fun d => ret (.d d) | none => bad) e2 Q := by rw [ev]; simp only [wp_bnd]; repeat (refine wp_q fun _ _ => ?_; try simp only [wp_bnd])
theorem wv_prop {Q : W → Env → Prop} {a : E} {m : Nat} : Wp (ev I P (.prop a m)) e Q = Wp (ev I P a) e fun x e1 => Wp (rd x) e1 fun s e2 => Wp (match objOf s with | some (c, _, _) => bnd (frz x) fun a => bnd (optM (I.meth c m)) fun f => callM P f [.d a] | none => bad) e2 Q := by rw [ev]; simp only [wp_bnd]; repeat (refine wp_q fun _ _ => ?_; try simp only [wp_bnd])
theorem wv_comp {Q : W → Env → Prop} {x : Nat} {src elt : E} {cnd : Option E} : Wp (ev I P (.comp x src cnd elt)) e Q = Wp (compM x (bnd (ev I P src) fun w => bnd (frz w) fun d => itemsM I P d) (match cnd with | none => eltM (ev I P elt) | some c => eltCM (ev I P c) (ev I P elt))) e Q := by cases cnd <;> rw [ev]
theorem wv_mk {Q : W → Env → Prop} {c : Nat} {as : List E} : Wp (ev I P (.mk c as)) e Q = Wp (evA I P as) e fun avs e1 => Wp (optM (I.init c)) e1 fun f e2 => Wp (makeM P c f avs) e2 Q := by rw [ev]; simp only [wp_bnd, wp_ret]; repeat (refine wp_q fun _ _ => ?_; try simp only [wp_bnd, wp_ret])
theorem wv_rng {Q : W → Env → Prop} {a b : E} : Wp (ev I P (.rng a b)) e Q = Wp (ev I P a) e fun x e1 => Wp (ev I P b) e1 fun y e2 => Wp (rd x) e2 fun s e3 => Wp (rd y) e3 fun t e4 => Wp (optM (ints2 s t)) e4 fun q e5 => brK (-4611686018427387904 ≤ q.1 ∧ q.1 < 4611686018427387904 ∧ -4611686018427387904 ≤ q.2 ∧ q.2 < 4611686018427387904) (Q (.d (.tup ((List.range (q.2 - q.1).toNat).map fun (k : Nat) => D.int (q.1 + (k : Int))))) e5) (False) := by rw [ev]; simp only [wp_bnd, wp_if, brK_if, wp_ret, wp_bad]; repeat (refine wp_q fun _ _ => ?_; try simp only [wp_bnd, wp_if, brK_if, wp_ret, wp_bad])
theorem wv_chain {Q : W → Env → Prop} {o1 o2 : Cop} {a b c : E} : Wp (ev I P (.chain o1 o2 a b c)) e Q = Wp (ev I P a) e fun x e1 => Wp (ev I P b) e1 fun y e2 => Wp (rd x) e2 fun s e3 => Wp (rd y) e3 fun t e4 => Wp (optM (cmpop o1 s t)) e4 fun k e5 => brK (k = true) (Wp (ev I P c) e5 fun z e6 => Wp (rd y) e6 fun t e7 => Wp (rd z) e7 fun u e8 => Wp (optM (cmpop o2 t u)) e8 fun k2 e9 => Q (.d (.bl k2)) e9) (Q (.d (.bl false)) e5) := by rw [ev]; simp only [wp_bnd, wp_if, brK_if, wp_ret]; (repeat (refine wp_q fun _ _ => ?_; try simp only [wp_bnd, wp_if, brK_if, wp_ret])); refine brK_q ?_ rfl; repeat (refine wp_q fun _ _ => ?_; try simp only [wp_bnd, wp_if, brK_if, wp_ret])
theorem we_nil {Q : List D → Env → Prop} : Wp (evs I P []) e Q = Q [] e := by rw [evs]; with_unfolding_all rfl
theorem we_cons {Q : List D → Env → Prop} {a : E} {es : List E} : Wp (evs I P (a :: es)) e Q = Wp (ev I P a) e fun x e1 => Wp (frz x) e1 fun x e2 => Wp (evs I P es) e2 fun xs e3 => Q (x :: xs) e3 := by rw [evs]; simp only [wp_bnd, wp_ret]; repeat (refine wp_q fun _ _ => ?_; try simp only [wp_bnd, wp_ret])
theorem wa_nil {Q : List AV → Env → Prop} : Wp (evA I P []) e Q = Q [] e := by rw [evA]; with_unfolding_all rfl
theorem wa_ref {Q : List AV → Env → Prop} {i : Nat} {es : List E} {c : Cell} (h : e.get i = some (.own c)) : Wp (evA I P (.ref i :: es)) e Q = Wp (evA I P es) e fun xs e1 => Q (.r i :: xs) e1 := by
  rw [evA]
  show Wp (fun e => match e.get i with | some (.own _) => (bnd (evA I P es) fun xs => ret (.r i :: xs)) e | _ => .stuck) e Q = _
  unfold Wp; dsimp only
  rw [h]
  with_unfolding_all show Wp (bnd (evA I P es) fun xs => ret (.r i :: xs)) e Q = _
  rw [wp_bnd]; with_unfolding_all rfl
theorem wa_cons {Q : List AV → Env → Prop} {a : E} {es : List E} (h : ∀ i, a ≠ .ref i) : Wp (evA I P (a :: es)) e Q = Wp (ev I P a) e fun x e1 => Wp (frz x) e1 fun x e2 => Wp (evA I P es) e2 fun xs e3 => Q (.d x :: xs) e3 := by rw [evA.eq_3 I P a es (fun i z => h i z)]; simp only [wp_bnd, wp_ret]; repeat (refine wp_q fun _ _ => ?_; try simp only [wp_bnd, wp_ret])
def refK (K : Prop) [Tg K] : Option Sl → Prop
  | some (.own _) => K
  | _ => False
theorem refK_own {K : Prop} {c : Cell} : refK K (some (.own c)) = K := pr_eq id id
theorem wa_ref' {Q : List AV → Env → Prop} {i : Nat} {es : List E} : Wp (evA I P (.ref i :: es)) e Q = refK (Wp (evA I P es) e fun xs e1 => Q (.r i :: xs) e1) (e.get i) := by
  cases q : e.get i with
  | none =>
    rw [evA]
    show Wp (fun e => match e.get i with | some (.own _) => (bnd (evA I P es) fun xs => ret (.r i :: xs)) e | _ => .stuck) e Q = _
    unfold Wp; dsimp only; rw [q]; rfl
  | some s =>
    cases s with
    | own c => rw [wa_ref q]; rfl
    | d x =>
      rw [evA]
      show Wp (fun e => match e.get i with | some (.own _) => (bnd (evA I P es) fun xs => ret (.r i :: xs)) e | _ => .stuck) e Q = _
      unfold Wp; dsimp only; rw [q]; rfl
theorem wl_ref' {Q : List AV × Cell → Env → Prop} {i : Nat} {es : List E} : Wp (evL I P (.ref i :: es)) e Q = refK (Wp (evL I P es) e fun q e1 => Q (.r i :: q.1, q.2) e1) (e.get i) := by
  have h : Wp (evL I P (.ref i :: es)) e Q = Wp (fun e => match e.get i with | some (.own _) => (bnd (evL I P es) fun q => ret (.r i :: q.1, q.2)) e | _ => .stuck) e Q := by rw [evL] <;> rfl
  rw [h]
  cases q : e.get i with
  | none => unfold Wp; dsimp only; rw [q]; rfl
  | some s =>
    cases s with
    | own c =>
      show _ = Wp _ _ _
      unfold Wp; dsimp only; rw [q]
      with_unfolding_all show Wp (bnd (evL I P es) fun q => ret (.r i :: q.1, q.2)) e Q = _
      rw [wp_bnd]; with_unfolding_all rfl
    | d x => unfold Wp; dsimp only; rw [q]; rfl
def newK (K : Cell → Prop) : W → Prop
  | .new c => K c
  | _ => False
theorem wl_newa {Q : List AV × Cell → Env → Prop} {a : E} {es : List E} : Wp (evL I P (.newa a :: es)) e Q = Wp (ev I P a) e fun w e1 => newK (fun c => Q ([], c) e1) w := by
  rw [evL, wp_bnd]
  refine wp_q fun w e1 => ?_
  cases w <;> with_unfolding_all rfl
theorem newK_new {K : Cell → Prop} {c : Cell} : newK K (.new c) = K c := pr_eq id id
theorem wl_var {Q : List AV × Cell → Env → Prop} {v : Nat} {es : List E} : Wp (evL I P (.var v :: es)) e Q = Wp (ev I P (.var v)) e fun x e1 => Wp (frz x) e1 fun x e2 => Wp (evL I P es) e2 fun q e3 => Q (.d x :: q.1, q.2) e3 := by rw [evL.eq_4 I P (.var v) es (fun a z => by cases z) (fun i z => by cases z)]; simp only [wp_bnd, wp_ret]; repeat (refine wp_q fun _ _ => ?_; try simp only [wp_bnd, wp_ret])
theorem wa_var {Q : List AV → Env → Prop} {v : Nat} {es : List E} : Wp (evA I P (.var v :: es)) e Q = Wp (ev I P (.var v)) e fun x e1 => Wp (frz x) e1 fun x e2 => Wp (evA I P es) e2 fun xs e3 => Q (.d x :: xs) e3 := wa_cons fun i h => by cases h
theorem wa_cst {Q : List AV → Env → Prop} {d : D} {es : List E} : Wp (evA I P (.cst d :: es)) e Q = Wp (ev I P (.cst d)) e fun x e1 => Wp (frz x) e1 fun x e2 => Wp (evA I P es) e2 fun xs e3 => Q (.d x :: xs) e3 := wa_cons fun i h => by cases h
theorem wa_lst {Q : List AV → Env → Prop} {l : List E} {es : List E} : Wp (evA I P (.lst l :: es)) e Q = Wp (ev I P (.lst l)) e fun x e1 => Wp (frz x) e1 fun x e2 => Wp (evA I P es) e2 fun xs e3 => Q (.d x :: xs) e3 := wa_cons fun i h => by cases h
theorem wa_tup {Q : List AV → Env → Prop} {l : List E} {es : List E} : Wp (evA I P (.tup l :: es)) e Q = Wp (ev I P (.tup l)) e fun x e1 => Wp (frz x) e1 fun x e2 => Wp (evA I P es) e2 fun xs e3 => Q (.d x :: xs) e3 := wa_cons fun i h => by cases h
theorem wa_idx {Q : List AV → Env → Prop} {a b : E} {es : List E} : Wp (evA I P (.idx a b :: es)) e Q = Wp (ev I P (.idx a b)) e fun x e1 => Wp (frz x) e1 fun x e2 => Wp (evA I P es) e2 fun xs e3 => Q (.d x :: xs) e3 := wa_cons fun i h => by cases h
theorem wa_bin {Q : List AV → Env → Prop} {o : Bop} {a b : E} {es : List E} : Wp (evA I P (.bin o a b :: es)) e Q = Wp (ev I P (.bin o a b)) e fun x e1 => Wp (frz x) e1 fun x e2 => Wp (evA I P es) e2 fun xs e3 => Q (.d x :: xs) e3 := wa_cons fun i h => by cases h
theorem wa_call {Q : List AV → Env → Prop} {f : Nat} {l : List E} {es : List E} : Wp (evA I P (.call f l :: es)) e Q = Wp (ev I P (.call f l)) e fun x e1 => Wp (frz x) e1 fun x e2 => Wp (evA I P es) e2 fun xs e3 => Q (.d x :: xs) e3 := wa_cons fun i h => by cases h
theorem wa_prim {Q : List AV → Env → Prop} {p : Prim} {a : E} {es : List E} : Wp (evA I P (.prim p a :: es)) e Q = Wp (ev I P (.prim p a)) e fun x e1 => Wp (frz x) e1 fun x e2 => Wp (evA I P es) e2 fun xs e3 => Q (.d x :: xs) e3 := wa_cons fun i h => by cases h
theorem wa_slc {Q : List AV → Env → Prop} {a : E} {lo hi : Option E} {es : List E} : Wp (evA I P (.slc a lo hi :: es)) e Q = Wp (ev I P (.slc a lo hi)) e fun x e1 => Wp (frz x) e1 fun x e2 => Wp (evA I P es) e2 fun xs e3 => Q (.d x :: xs) e3 := wa_cons fun i h => by cases h
theorem wa_attr {Q : List AV → Env → Prop} {a : E} {f : Nat} {es : List E} : Wp (evA I P (.attr a f :: es)) e Q = Wp (ev I P (.attr a f)) e fun x e1 => Wp (frz x) e1 fun x e2 => Wp (evA I P es) e2 fun xs e3 => Q (.d x :: xs) e3 := wa_cons fun i h => by cases h
theorem wa_ite {Q : List AV → Env → Prop} {c a b : E} {es : List E} : Wp (evA I P (.ite c a b :: es)) e Q = Wp (ev I P (.ite c a b)) e fun x e1 => Wp (frz x) e1 fun x e2 => Wp (evA I P es) e2 fun xs e3 => Q (.d x :: xs) e3 := wa_cons fun i h => by cases h
theorem wa_cmp {Q : List AV → Env → Prop} {o : Cop} {a b : E} {es : List E} : Wp (evA I P (.cmp o a b :: es)) e Q = Wp (ev I P (.cmp o a b)) e fun x e1 => Wp (frz x) e1 fun x e2 => Wp (evA I P es) e2 fun xs e3 => Q (.d x :: xs) e3 := wa_cons fun i h => by cases h
theorem wa_comp {Q : List AV → Env → Prop} {y : Nat} {s : E} {c : Option E} {x : E} {es : List E} : Wp (evA I P (.comp y s c x :: es)) e Q = Wp (ev I P (.comp y s c x)) e fun x e1 => Wp (frz x) e1 fun x e2 => Wp (evA I P es) e2 fun xs e3 => Q (.d x :: xs) e3 := wa_cons fun i h => by cases h
theorem wa_rev {Q : List AV → Env → Prop} {a : E} {es : List E} : Wp (evA I P (.rev a :: es)) e Q = Wp (ev I P (.rev a)) e fun x e1 => Wp (frz x) e1 fun x e2 => Wp (evA I P es) e2 fun xs e3 => Q (.d x :: xs) e3 := wa_cons fun i h => by cases h
theorem wa_isNone {Q : List AV → Env → Prop} {a : E} {es : List E} : Wp (evA I P (.isNone a :: es)) e Q = Wp (ev I P (.isNone a)) e fun x e1 => Wp (frz x) e1 fun x e2 => Wp (evA I P es) e2 fun xs e3 => Q (.d x :: xs) e3 := wa_cons fun i h => by cases h
theorem wa_glob {Q : List AV → Env → Prop} {g : Nat} {es : List E} : Wp (evA I P (.glob g :: es)) e Q = Wp (ev I P (.glob g)) e fun x e1 => Wp (frz x) e1 fun x e2 => Wp (evA I P es) e2 fun xs e3 => Q (.d x :: xs) e3 := wa_cons fun i h => by cases h
theorem wa_ccon {Q : List AV → Env → Prop} {c k : Nat} {es : List E} : Wp (evA I P (.ccon c k :: es)) e Q = Wp (ev I P (.ccon c k)) e fun x e1 => Wp (frz x) e1 fun x e2 => Wp (evA I P es) e2 fun xs e3 => Q (.d x :: xs) e3 := wa_cons fun i h => by cases h
theorem wa_prop {Q : List AV → Env → Prop} {a : E} {m : Nat} {es : List E} : Wp (evA I P (.prop a m :: es)) e Q = Wp (ev I P (.prop a m)) e fun x e1 => Wp (frz x) e1 fun x e2 => Wp (evA I P es) e2 fun xs e3 => Q (.d x :: xs) e3 := wa_cons fun i h => by cases h
theorem wo_none {Q : Option Int → Env → Prop} : Wp (evO I P none) e Q = Q none e := by rw [evO]; with_unfolding_all rfl
theorem wo_some {Q : Option Int → Env → Prop} {a : E} : Wp (evO I P (some a)) e Q = Wp (ev I P a) e fun x e1 => Wp (rd x) e1 fun s e2 => Wp (optM (intOf s)) e2 fun i e3 => Q (some i) e3 := by rw [evO]; simp only [wp_bnd, wp_ret]; repeat (refine wp_q fun _ _ => ?_; try simp only [wp_bnd, wp_ret])
section
variable {Q : Fl → Env → Prop}
theorem ws_nil : Wp (execs I P br fuel []) e Q = Q .next e := by rw [execs]; with_unfolding_all rfl
/-- what follows a statement -/
def seqK (Q : Fl → Env → Prop) (K : Env → Prop) [Tg (Q, K)] : Fl → Env → Prop
  | .next, e => K e
  | f, e => Q f e
theorem seqK_next {K : Env → Prop} {e : Env} : seqK Q K .next e = K e := pr_eq id id
theorem seqK_ret {K : Env → Prop} {e : Env} {s : Sl} : seqK Q K (.ret s) e = Q (.ret s) e := pr_eq id id
theorem seqK_brk {K : Env → Prop} {e : Env} : seqK Q K .brk e = Q .brk e := pr_eq id id
theorem seqK_cont {K : Env → Prop} {e : Env} : seqK Q K .cont e = Q .cont e := pr_eq id id
theorem ws_cons {s : S} {ss : List S} : Wp (execs I P br fuel (s :: ss)) e Q = Wp (exec I P br fuel s) e (seqK Q fun e1 => Wp (execs I P br fuel ss) e1 Q) := by
  rw [execs, wp_bnd]
  refine wp_q fun f e1 => ?_
  cases f <;> with_unfolding_all rfl
theorem wst_expr {a : E} : Wp (exec I P br fuel (.expr a)) e Q = Wp (ev I P a) e fun _ e1 => Q .next e1 := by rw [exec]; simp only [wp_bnd, wp_ret]; repeat (refine wp_q fun _ _ => ?_; try simp only [wp_bnd, wp_ret])
theorem wst_asg {i : Nat} {a : E} : Wp (exec I P br fuel (.asg i a)) e Q = Wp (ev I P a) e fun w e1 => Wp (sto w) e1 fun s e2 => Q .next (e2.set i (some s)) := by rw [exec]; simp only [wp_bnd, wp_ret, wp_setSl]; repeat (refine wp_q fun _ _ => ?_; try simp only [wp_bnd, wp_ret, wp_setSl])
theorem wst_asgT {is : List Nat} {a : E} : Wp (exec I P br fuel (.asgT is a)) e Q = Wp (ev I P a) e fun w e1 => Wp (frz w) e1 fun x e2 => Wp (bindT is true x) e2 fun _ e3 => Q .next e3 := by rw [exec]; simp only [wp_bnd, wp_ret]; repeat (refine wp_q fun _ _ => ?_; try simp only [wp_bnd, wp_ret])
theorem wst_append {i : Nat} {a : E} : Wp (exec I P br fuel (.append i a)) e Q = Wp (ownLst i) e fun _ e0 => Wp (ev I P a) e0 fun w e1 => Wp (frz w) e1 fun x e2 => Wp (ownLst i) e2 fun xs e3 => brK (xs.length < 16777216) (Q .next (e3.set i (some (.own (.lst (xs ++ [x])))))) (False) := by rw [exec]; simp only [wp_bnd, wp_ret, wp_if, brK_if, wp_bad, wp_setSl]; repeat (refine wp_q fun _ _ => ?_; try simp only [wp_bnd, wp_ret, wp_if, brK_if, wp_bad, wp_setSl])
theorem wst_insert {i : Nat} {k a : E} : Wp (exec I P br fuel (.insert i k a)) e Q = Wp (ownLst i) e fun _ e0 => Wp (ev I P k) e0 fun kw e1 => Wp (rd kw) e1 fun ks e2 => Wp (optM (intOf ks)) e2 fun k e3 => Wp (ev I P a) e3 fun w e4 => Wp (frz w) e4 fun x e5 => Wp (ownLst i) e5 fun xs e6 => brK (xs.length < 16777216 ∧ 0 ≤ k ∧ k < 4611686018427387904) (Q .next (e6.set i (some (.own (.lst (xs.take k.toNat ++ [x] ++ xs.drop k.toNat)))))) (False) := by rw [exec]; simp only [wp_bnd, wp_ret, wp_if, brK_if, wp_bad, wp_setSl]; repeat (refine wp_q fun _ _ => ?_; try simp only [wp_bnd, wp_ret, wp_if, brK_if, wp_bad, wp_setSl])
theorem wst_setIx {i : Nat} {k a : E} : Wp (exec I P br fuel (.setIx i k a)) e Q = Wp (ev I P a) e fun w e1 => Wp (frz w) e1 fun x e2 => Wp (ownLst i) e2 fun _ e3 => Wp (ev I P k) e3 fun kw e4 => Wp (rd kw) e4 fun ks e5 => Wp (optM (intOf ks)) e5 fun k e6 => Wp (ownLst i) e6 fun xs e7 => Wp (optM (ix xs.length k)) e7 fun j e8 => Q .next (e8.set i (some (.own (.lst (xs.set j x))))) := by rw [exec]; simp only [wp_bnd, wp_ret, wp_setSl]; repeat (refine wp_q fun _ _ => ?_; try simp only [wp_bnd, wp_ret, wp_setSl])
theorem wst_ret {a : E} : Wp (exec I P br fuel (.ret a)) e Q = Wp (ev I P a) e fun w e1 => Wp (out br w) e1 fun s e2 => Q (.ret s) e2 := by rw [exec]; simp only [wp_bnd, wp_ret]; repeat (refine wp_q fun _ _ => ?_; try simp only [wp_bnd, wp_ret])
theorem wst_ite {c : E} {a b : List S} : Wp (exec I P br fuel (.ite c a b)) e Q = Wp (ev I P c) e fun x e1 => Wp (tr x) e1 fun k e2 => brK (k = true) (Wp (execs I P br fuel a) e2 Q) (Wp (execs I P br fuel b) e2 Q) := by rw [exec]; simp only [wp_bnd, wp_if, brK_if]; repeat (refine wp_q fun _ _ => ?_; try simp only [wp_bnd, wp_if, brK_if])
theorem wst_for {tg : List Nat} {isT : Bool} {src : E} {body : List S} : Wp (exec I P br fuel (.for_ tg isT src body)) e Q = Wp (ev I P src) e fun w e1 => Wp (frz w) e1 fun d e2 => Wp (itemsM I P d) e2 fun xs e3 => Wp (forL (bindT tg isT) (execs I P br fuel body) xs) e3 Q := by rw [exec]; simp only [wp_bnd]; repeat (refine wp_q fun _ _ => ?_; try simp only [wp_bnd])
theorem wst_brk : Wp (exec I P br fuel .brk) e Q = Q .brk e := by rw [exec]; with_unfolding_all rfl
theorem wst_cont : Wp (exec I P br fuel .cont) e Q = Q .cont e := by rw [exec]; with_unfolding_all rfl
theorem wst_pass : Wp (exec I P br fuel .pass) e Q = Q .next e := by rw [exec]; with_unfolding_all rfl
theorem wst_bad : Wp (exec I P br fuel .bad) e Q = False := by rw [exec]; with_unfolding_all rfl
end
end
/-! ### values -/
theorem item_own {xs : List D} {i : Int} : item (.own (.lst xs)) (.d (.int i)) = (ix xs.length i).bind fun j => xs[j]? := rfl
theorem item_lst {t : Nat} {xs : List D} {i : Int} : item (.d (.lst t xs)) (.d (.int i)) = (ix xs.length i).bind fun j => xs[j]? := rfl
theorem item_tup {xs : List D} {i : Int} : item (.d (.tup xs)) (.d (.int i)) = (ix xs.length i).bind fun j => xs[j]? := rfl
theorem ix_0 {n : Nat} : ix (n + 1) 0 = some 0 := by unfold ix; rw [if_pos (by omega), if_pos (by omega)]; rfl
theorem ix_1 {n : Nat} : ix (n + 2) 1 = some 1 := by unfold ix; rw [if_pos (by omega), if_pos (by omega)]; rfl
theorem ix_2 {n : Nat} : ix (n + 3) 2 = some 2 := by unfold ix; rw [if_pos (by omega), if_pos (by omega)]; rfl
theorem ix_3 {n : Nat} : ix (n + 4) 3 = some 3 := by unfold ix; rw [if_pos (by omega), if_pos (by omega)]; rfl
theorem ix_4 {n : Nat} : ix (n + 5) 4 = some 4 := by unfold ix; rw [if_pos (by omega), if_pos (by omega)]; rfl
theorem ix_5 {n : Nat} : ix (n + 6) 5 = some 5 := by unfold ix; rw [if_pos (by omega), if_pos (by omega)]; rfl
theorem ix_6 {n : Nat} : ix (n + 7) 6 = some 6 := by unfold ix; rw [if_pos (by omega), if_pos (by omega)]; rfl
theorem ix_7 {n : Nat} : ix (n + 8) 7 = some 7 := by unfold ix; rw [if_pos (by omega), if_pos (by omega)]; rfl
theorem ix_8 {n : Nat} : ix (n + 9) 8 = some 8 := by unfold ix; rw [if_pos (by omega), if_pos (by omega)]; rfl
theorem ix_9 {n : Nat} : ix (n + 10) 9 = some 9 := by unfold ix; rw [if_pos (by omega), if_pos (by omega)]; rfl
theorem ix_10 {n : Nat} : ix (n + 11) 10 = some 10 := by unfold ix; rw [if_pos (by omega), if_pos (by omega)]; rfl
theorem ix_11 {n : Nat} : ix (n + 12) 11 = some 11 := by unfold ix; rw [if_pos (by omega), if_pos (by omega)]; rfl
theorem ix_12 {n : Nat} : ix (n + 13) 12 = some 12 := by unfold ix; rw [if_pos (by omega), if_pos (by omega)]; rfl
theorem ix_13 {n : Nat} : ix (n + 14) 13 = some 13 := by unfold ix; rw [if_pos (by omega), if_pos (by omega)]; rfl
theorem ix_m1 {n : Nat} : ix (n + 1) (-1) = some n := by unfold ix; rw [if_neg (by omega), if_pos (by omega)]; congr 1; omega
theorem add_int {i j : Int} : binop .add (.d (.int i)) (.d (.int j)) = some (.d (.int (i + j))) := rfl
theorem sub_int {i j : Int} : binop .sub (.d (.int i)) (.d (.int j)) = some (.d (.int (i - j))) := rfl
theorem mul_int {i j : Int} (h : (-18446744073709551616 < i ∧ i < 18446744073709551616) ∨ (-18446744073709551616 < j ∧ j < 18446744073709551616)) : binop .mul (.d (.int i)) (.d (.int j)) = some (.d (.int (i * j))) := by unfold binop; dsimp only; rw [if_pos h]
theorem fdiv_int {i j : Int} (h : 0 < j ∧ j < 18446744073709551616) : binop .fdiv (.d (.int i)) (.d (.int j)) = some (.d (.int (i / j))) := by unfold binop; dsimp only; rw [if_pos h]
theorem mod_int {i j : Int} (h : 0 < j) : binop .mod (.d (.int i)) (.d (.int j)) = some (.d (.int (i % j))) := by unfold binop; dsimp only; rw [if_pos h]
theorem cmp_le {i j : Int} : cmpop .le (.d (.int i)) (.d (.int j)) = some (decide (i ≤ j)) := rfl
theorem cmp_lt {i j : Int} : cmpop .lt (.d (.int i)) (.d (.int j)) = some (decide (i < j)) := rfl
theorem cmp_gt {i j : Int} : cmpop .gt (.d (.int i)) (.d (.int j)) = some (decide (j < i)) := rfl
theorem cmp_ge {i j : Int} : cmpop .ge (.d (.int i)) (.d (.int j)) = some (decide (j ≤ i)) := rfl
theorem cmp_eqi {i j : Int} : cmpop .eq (.d (.int i)) (.d (.int j)) = some (decide (i = j)) := by
  unfold cmpop; dsimp only; rw [if_pos (by rfl)]; rfl
theorem cmp_nei {i j : Int} : cmpop .ne (.d (.int i)) (.d (.int j)) = some (!decide (i = j)) := by
  unfold cmpop; dsimp only; rw [if_pos (by rfl)]; rfl
theorem objOf_d {x : D} (h : ∀ c ns xs, x ≠ .obj c ns xs) : objOf (.d x) = none := by
  cases x <;> first | rfl | exact absurd rfl (h _ _ _)
section
variable {e : Env} {Q : W → Env → Prop} {I : Info} {P : Phi}
/-- a comparison that asks no own class -/
theorem wp_cmp {o : Cop} {x y : W} (h : ∀ s e1, Wp (rd x) e (fun s' e' => s' = s ∧ e' = e1) → objOf s = none) : Wp (cmpM I P o x y) e Q = Wp (rd x) e fun s e1 => Wp (rd y) e1 fun t e2 => Wp (optM (cmpop o s t)) e2 fun b e3 => Q (.d (.bl b)) e3 := by
  unfold cmpM
  rw [wp_bnd]
  cases q : rd x e with
  | exc _ _ => unfold Wp; rw [q]
  | stuck => unfold Wp; rw [q]
  | ok s e1 =>
    have hs := h s e1 (by unfold Wp; rw [q]; exact ⟨rfl, rfl⟩)
    unfold Wp; rw [q]
    dsimp only
    with_unfolding_all show Wp _ _ _ = Wp _ _ _
    rw [wp_bnd]
    refine wp_q fun t e2 => ?_
    rw [hs]
    cases o <;> (simp only [wp_bnd, wp_ret]; with_unfolding_all rfl)
theorem wp_cmp_int {o : Cop} {i j : Int} : Wp (cmpM I P o (.d (.int i)) (.d (.int j))) e Q = Wp (optM (cmpop o (.d (.int i)) (.d (.int j)))) e fun b e3 => Q (.d (.bl b)) e3 := by
  rw [wp_cmp (fun s e1 h => by rw [wp_rd_d] at h; obtain ⟨rfl, _⟩ := h; rfl)]; with_unfolding_all rfl
theorem truth_bl {b : Bool} : truth (.d (.bl b)) = some b := rfl
theorem truth_int {i : Int} : truth (.d (.int i)) = some (i != 0) := rfl
theorem out_d {br : List Nat} {x : D} {Q : Sl → Env → Prop} : Wp (out br (.d x)) e Q = Q (.d x) e := by with_unfolding_all exact pr_eq id id
theorem out_new {br : List Nat} {c : Cell} {Q : Sl → Env → Prop} : Wp (out br (.new c)) e Q = Q (.own c) e := by with_unfolding_all exact pr_eq id id
theorem wp_primlen_seq {x : D} {xs : List D} (h : (Sl.d x).seq? = some xs) : Wp (primM I P .len (.d x)) e Q = Q (.d (.int xs.length)) e := by
  show Wp (lenM I P (.d x)) e Q = _
  unfold lenM
  rw [wp_bnd, wp_rd_d]
  have h1 : objOf (.d x) = none := by cases x <;> first | rfl | (cases h; done)
  rw [h1]
  have h2 : prim1 .len (.d x) = some (.d (.int xs.length)) := by
    cases x <;> first | (cases h; done) | (cases h; rfl)
  show Wp (optM (prim1 .len (.d x))) e Q = _
  rw [h2]; with_unfolding_all rfl
theorem wp_primlen_lst {t : Nat} {xs : List D} : Wp (primM I P .len (.d (.lst t xs))) e Q = Q (.d (.int xs.length)) e := wp_primlen_seq rfl
theorem wp_primlen_tup {xs : List D} : Wp (primM I P .len (.d (.tup xs))) e Q = Q (.d (.int xs.length)) e := wp_primlen_seq rfl
theorem wp_prim_int {i : Int} : Wp (primM I P .int (.d (.int i))) e Q = Q (.d (.int i)) e := by with_unfolding_all exact pr_eq id id
end
end MV
/-! MVCs: what a call gives; loops, comprehensions, sorting. -/
namespace MV
open PySem

section
variable {I : Info} {fns : Nat → Option FnI} {fuel n : Nat}
/-- a call ends well, with K -/
def Cs (I : Info) (fns : Nat → Option FnI) (fuel n t f : Nat) (args : List Sl) (K : Sl → List (Option Sl) → Prop) : Prop := ∃ w fin, callF I fns fuel n t f args = .ok w fin ∧ K w fin
theorem callF_fin {t f : Nat} {args : List Sl} {w : Sl} {fin : List (Option Sl)} (h : callF I fns fuel n t f args = .ok w fin) : fin.length = args.length := by
  cases n with
  | zero => cases h
  | succ n =>
    unfold callF at h
    split at h
    · cases h
    · split at h
      · rename_i d _ c
        split at h
        · cases h; simp [c.1]
        · cases h; simp [c.1]
        · cases h
        · cases h
      · cases h
theorem argSl_len {e : Env} : ∀ {as : List AV} {sls : List Sl}, argSl e as = some sls → sls.length = as.length
  | [], sls, h => by cases h; rfl
  | .d x :: r, sls, h => by
    unfold argSl at h
    cases q : argSl e r with
    | none => rw [q] at h; cases h
    | some z => rw [q] at h; cases h; simp [argSl_len q]
  | .r i :: r, sls, h => by
    unfold argSl at h
    split at h
    · cases q : argSl e r with
      | none => rw [q] at h; cases h
      | some z => rw [q] at h; cases h; simp [argSl_len q]
    · cases h
/-- what has become of the parameters -/
def finL (np : Nat) (br : List Nat) (e : Env) : List (Option Sl) := (List.range np).map fun i => if i ∈ br then e.get i else none
def endK (np : Nat) (br : List Nat) (K : Sl → List (Option Sl) → Prop) : Fl → Env → Prop
  | .ret s, e => K s (finL np br e)
  | .next, e => K (.d .non) (finL np br e)
  | _, _ => False
theorem endK_ret {np : Nat} {br : List Nat} {K : Sl → List (Option Sl) → Prop} {s : Sl} {e : Env} : endK np br K (.ret s) e = K s (finL np br e) := propext ⟨id, id⟩
theorem cs_of {t f : Nat} {d : FnI} {args : List Sl} {K : Sl → List (Option Sl) → Prop} (hf : fns f = some d) (ha : args.length = d.np) (hb : okArgs d.br 0 args = true)
    (h : Wp (execs I (callF I fns fuel n) d.br fuel d.body) ⟨t, args.map some ++ List.replicate (d.nl - d.np) none⟩ (endK d.np d.br K)) : Cs I fns fuel (n + 1) t f args K := by
  obtain ⟨fl, e, h1, h2⟩ := wp_eq h
  unfold Cs callF
  rw [hf]
  dsimp only
  rw [if_pos ⟨ha, hb⟩, h1]
  cases fl with
  | ret s => exact ⟨s, _, rfl, h2⟩
  | next => exact ⟨_, _, rfl, h2⟩
  | brk => exact h2.elim
  | cont => exact h2.elim
theorem Cs.mono {t f : Nat} {args : List Sl} {K K' : Sl → List (Option Sl) → Prop} (h : Cs I fns fuel n t f args K) (k : ∀ w fin, K w fin → K' w fin) : Cs I fns fuel n t f args K' := by
  obtain ⟨w, fin, h1, h2⟩ := h
  exact ⟨w, fin, h1, k _ _ h2⟩
variable {e : Env} {Q : W → Env → Prop}
theorem wp_call {f : Nat} {as : List AV} {sls : List Sl} {K : Sl → List (Option Sl) → Prop} (h : Cs I fns fuel n e.t f sls K) (ha : argSl e as = some sls) (hn : (refsOf as).Nodup) (k : ∀ w fin, K w fin → Q (slW w) (setFin e as fin)) : Wp (callM (callF I fns fuel n) f as) e Q := by
  obtain ⟨w, fin, h1, h2⟩ := h
  exact wp_callM hn ha h1 ((callF_fin h1).trans (argSl_len ha)) (k _ _ h2)
/-- a call that gets and gives data alone -/
theorem wp_callD1 {f : Nat} {x y : D} (h : Cs I fns fuel n e.t f [.d x] fun w _ => w = .d y) (k : Q (.d y) e) : Wp (callM (callF I fns fuel n) f [.d x]) e Q := by
  refine wp_call h rfl List.nodup_nil fun w fin hw => ?_
  subst hw
  cases fin with
  | nil => exact k
  | cons a r => cases r <;> exact k
theorem wp_callD2 {f : Nat} {x x2 y : D} (h : Cs I fns fuel n e.t f [.d x, .d x2] fun w _ => w = .d y) (k : Q (.d y) e) : Wp (callM (callF I fns fuel n) f [.d x, .d x2]) e Q := by
  refine wp_call h rfl List.nodup_nil fun w fin hw => ?_
  subst hw
  cases fin with
  | nil => exact k
  | cons a r => cases r with
    | nil => exact k
    | cons b r => cases r <;> exact k
theorem wp_callS1 {f : Nat} {x : D} {y : Sl} (h : Cs I fns fuel n e.t f [.d x] fun w _ => w = y) (k : Q (slW y) e) : Wp (callM (callF I fns fuel n) f [.d x]) e Q := by
  refine wp_call h rfl List.nodup_nil fun w fin hw => ?_
  subst hw
  cases fin with
  | nil => exact k
  | cons a r => cases r <;> exact k
theorem setFin_d : ∀ {xs : List D} {fin : List (Option Sl)}, setFin e (xs.map AV.d) fin = e
  | [], [] => rfl
  | [], _ :: _ => rfl
  | x :: xs, [] => rfl
  | x :: xs, _ :: _ => setFin_d (xs := xs)
theorem argSl_d : ∀ {xs : List D}, argSl e (xs.map AV.d) = some (xs.map .d)
  | [] => rfl
  | x :: xs => by
    show (argSl e (xs.map AV.d)).map (Sl.d x :: ·) = _
    rw [argSl_d]; rfl
theorem refsOf_d : ∀ {xs : List D}, refsOf (xs.map AV.d) = []
  | [] => rfl
  | x :: xs => refsOf_d (xs := xs)
theorem wp_callS {f : Nat} (xs : List D) {K : Sl → List (Option Sl) → Prop} (h : Cs I fns fuel n e.t f (xs.map .d) K) (k : ∀ w fin, K w fin → Q (slW w) e) : Wp (callM (callF I fns fuel n) f (xs.map .d)) e Q := by
  refine wp_call h argSl_d (by rw [refsOf_d]; exact List.nodup_nil) fun w fin hw => ?_
  rw [setFin_d]
  exact k w fin hw
theorem wp_callL {f : Nat} {as : List AV} {c : Cell} {sls : List Sl} {K : Sl → List (Option Sl) → Prop} (h : Cs I fns fuel n e.t f (sls ++ [.own c]) K) (ha : argSl e as = some sls) (hn : (refsOf as).Nodup) (k : ∀ w fin, K w fin → Q (slW w) (setFin e as fin)) : Wp (callLM (callF I fns fuel n) f as c) e Q := by
  obtain ⟨w, fin, h1, h2⟩ := h
  unfold Wp callLM
  rw [if_pos hn, ha]
  dsimp only
  rw [h1]
  dsimp only
  rw [if_pos (by rw [callF_fin h1, List.length_append, argSl_len ha]; rfl)]
  exact k _ _ h2
/-- a new object -/
theorem wp_make {c f : Nat} (xs : List D) {ns : List Nat} {ys : List D} (h : Cs I fns fuel n e.t f (.own (.obj c [] []) :: xs.map .d) fun w fin => w = .d .non ∧ ∃ r, fin = some (.own (.obj c ns ys)) :: r) (k : Q (.new (.obj c ns ys)) e) : Wp (makeM (callF I fns fuel n) c f (xs.map .d)) e Q := by
  obtain ⟨w, fin, h1, rfl, r, rfl⟩ := h
  unfold Wp makeM
  rw [if_pos (by rw [refsOf_d]; exact List.nodup_nil), argSl_d]
  dsimp only
  rw [h1]
  have hl := callF_fin h1
  dsimp only [madeOf]
  rw [if_pos (by simp at hl ⊢; exact hl), setFin_d]
  exact k
end

/-! ### comprehensions -/
section
variable {e : Env}
theorem wp_compLoop {x : Nat} {body : M (Option D)} {Q : List D → Env → Prop} (J : List D → List D → Env → Prop) (hend : ∀ acc e, J [] acc e → Q acc e)
    (hstep : ∀ y ys acc e, J (y :: ys) acc e → Wp body (e.set x (some (.d y))) fun r e1 => match r with
      | some z => acc.length < 16777216 ∧ J ys (acc ++ [z]) (e1.set x none)
      | none => J ys acc (e1.set x none)) : ∀ ys acc e, J ys acc e → Wp (compLoop x body ys acc) e Q
  | [], acc, e, h => by rw [compLoop, wp_ret]; exact hend acc e h
  | y :: ys, acc, e, h => by
    rw [compLoop, wp_bnd, wp_setSl, wp_bnd, wp_noX]
    refine (hstep y ys acc e h).mono fun r e1 h1 => ?_
    rw [wp_bnd, wp_setSl]
    cases r with
    | some z => 
      dsimp only
      rw [if_pos h1.1]
      exact wp_compLoop J hend hstep ys _ _ h1.2
    | none => exact wp_compLoop J hend hstep ys _ _ h1
theorem wp_elt {m : M W} {Q : Option D → Env → Prop} : Wp (eltM m) e Q = Wp m e fun z e1 => Wp (frz z) e1 fun z e2 => Q (some z) e2 := by
  unfold eltM; simp only [wp_bnd, wp_ret]; repeat (refine wp_q fun _ _ => ?_; try simp only [wp_bnd, wp_ret])
theorem wp_eltC {c m : M W} {Q : Option D → Env → Prop} : Wp (eltCM c m) e Q = Wp c e fun k e1 => Wp (tr k) e1 fun k e2 => brK (k = true) (Wp (eltM m) e2 Q) (Q none e2) := by
  unfold eltCM; simp only [wp_bnd, wp_if, wp_ret, brK_if]; repeat (refine wp_q fun _ _ => ?_; try simp only [wp_bnd, wp_if, wp_ret, brK_if])
/-- a comprehension without a condition whose element changes nothing but its own slot -/
theorem wp_comp_map {x : Nat} {m0 : M (List D)} {m : M W} {g : D → D} {Q : W → Env → Prop} (h : Wp m0 e fun xs e1 => xs.length ≤ 16777216 ∧ (∀ y ∈ xs, Wp m ((e1.set x none).set x (some (.d y))) fun w e2 => Wp (frz w) e2 fun z e3 => z = g y ∧ e3.set x none = e1.set x none) ∧ Q (.new (.lst (xs.map g))) (e1.set x none)) : Wp (compM x m0 (eltM m)) e Q := by
  unfold compM
  rw [wp_bnd]
  refine h.mono fun xs e1 ⟨hl, hx, hQ⟩ => ?_
  rw [wp_bnd, wp_setSl, wp_bnd]
  have ss : ∀ {e : Env}, (e.set x none).set x none = e.set x none := fun {e} => by
    unfold Env.set; simp
  refine wp_compLoop (J := fun ys acc e => e = e1.set x none ∧ (∀ y ∈ ys, y ∈ xs) ∧ acc ++ ys.map g = xs.map g) (fun acc e ⟨h1, _, h3⟩ => ?_) (fun y ys acc e ⟨h1, h2, h3⟩ => ?_) xs [] _ ⟨rfl, fun _ h => h, rfl⟩
  · rw [wp_elt]
    subst h1
    refine (hx y (h2 y (List.Mem.head _))).mono fun w e2 h4 => h4.mono fun z e3 ⟨h5, h6⟩ => ?_
    subst h5
    refine ⟨?_, h6, fun z hz => h2 z (List.Mem.tail _ hz), by rw [← h3]; simp⟩
    have := congrArg List.length h3
    simp at this
    omega
  · rw [wp_bnd, wp_setSl, wp_ret, h1, ss]
    rw [List.map_nil, List.append_nil] at h3
    rw [h3]; exact hQ
end

/-! ### sorting -/
/-- the order of texts -/
def sle (a b : Str) : Bool := PySem.W.dataLe false (fun b => PyData.str b) a b
theorem sle_eq (a b : Str) : sle a b = decide (a.cps.toList ≤ b.cps.toList) := congrFun (congrFun (PySem.W.dataLe_str (fun b : Str => b)) a) b
theorem sle_total (a b : Str) : (sle a b || sle b a) = true := by
  rw [sle_eq, sle_eq]
  rcases List.le_total a.cps.toList b.cps.toList with h | h <;> simp [h]
theorem sle_trans (a b c : Str) (h1 : sle a b = true) (h2 : sle b c = true) : sle a c = true := by
  rw [sle_eq, decide_eq_true_eq] at *
  exact List.le_trans h1 h2
theorem sle_antisymm {a b : Str} (h1 : sle a b = true) (h2 : sle b a = true) : a = b := by
  rw [sle_eq, decide_eq_true_eq] at *
  have h3 := List.le_antisymm h1 h2
  cases a; cases b
  simp only [Str.mk.injEq]
  exact Array.toList_inj.mp h3
def srt (l : List Str) : List Str := l.mergeSort sle
theorem sortD_str (l : List Str) : sortD (l.map D.str) = (srt l).map D.str := by
  unfold sortD srt
  rw [List.map_mergeSort]
  intro a _ b _
  rfl
theorem srt_perm (l : List Str) : (srt l).Perm l := List.mergeSort_perm l sle
theorem srt_sorted (l : List Str) : (srt l).Pairwise (fun a b => sle a b = true) := List.pairwise_mergeSort sle_trans (fun a b => by simpa using sle_total a b) l
theorem srt_uniq {l l' : List Str} (h : l.Perm l') (hs : l'.Pairwise (fun a b => sle a b = true)) : srt l = l' :=
  List.Perm.eq_of_pairwise (fun a b _ _ => sle_antisymm) (srt_sorted l) hs ((srt_perm l).trans h)
/-- pairs, by their names -/
def srtP {α : Type} (l : List (Str × α)) : List (Str × α) := l.mergeSort fun p q => sle p.1 q.1
theorem srtP_perm {α : Type} (l : List (Str × α)) : (srtP l).Perm l := List.mergeSort_perm l _
theorem srtP_sorted {α : Type} (l : List (Str × α)) : (srtP l).Pairwise (fun a b => sle a.1 b.1 = true) := List.pairwise_mergeSort (fun a b c => sle_trans a.1 b.1 c.1) (fun a b => by simpa using sle_total a.1 b.1) l
theorem nodup_fst {α : Type} : ∀ {l : List (Str × α)}, (l.map Prod.fst).Nodup → ∀ p ∈ l, ∀ q ∈ l, p.1 = q.1 → p = q
  | [], _, p, hp, _, _, _ => by cases hp
  | x :: l, h, p, hp, q, hq, e => by
    rw [List.map_cons, List.nodup_cons] at h
    rcases List.mem_cons.mp hp with h1 | h1 <;> rcases List.mem_cons.mp hq with h2 | h2
    · rw [h1, h2]
    · exact absurd (List.mem_map.mpr ⟨q, h2, by rw [← e, h1]⟩) h.1
    · exact absurd (List.mem_map.mpr ⟨p, h1, by rw [e, h2]⟩) h.1
    · exact nodup_fst h.2 p h1 q h2 e
theorem srtP_uniq {α : Type} {l l' : List (Str × α)} (h : l.Perm l') (hn : (l'.map Prod.fst).Nodup) (hs : l'.Pairwise (fun a b => sle a.1 b.1 = true)) : srtP l = l' :=
  List.Perm.eq_of_pairwise (fun a b ha hb h1 h2 => nodup_fst hn a (((srtP_perm l).trans h).mem_iff.mp ha) b hb (sle_antisymm h1 h2)) (srtP_sorted l) hs ((srtP_perm l).trans h)
end MV
/-! MVPr: what the primitives give. -/
namespace MV
open PySem
section
variable {e : Env} {Q : W → Env → Prop} {I : Info} {P : Phi} {br : List Nat}
theorem intOf_int {i : Int} : intOf (.d (.int i)) = some i := rfl
theorem slW_d {x : D} : slW (.d x) = .d x := rfl
theorem slW_own {c : Cell} : slW (.own c) = .new c := rfl
theorem setFin_r {i : Nat} {as : List AV} {f : Option Sl} {fs : List (Option Sl)} : setFin e (.r i :: as) (f :: fs) = setFin (e.set i f) as fs := rfl
theorem setFin_c {x : D} {as : List AV} {f : Option Sl} {fs : List (Option Sl)} : setFin e (.d x :: as) (f :: fs) = setFin e as fs := rfl
theorem setFin_n {fs : List (Option Sl)} : setFin e [] fs = e := by cases fs <;> rfl
theorem wp_items_lst {t : Nat} {xs : List D} {Q : List D → Env → Prop} : Wp (itemsM I P (.lst t xs)) e Q = Q xs e := by with_unfolding_all exact pr_eq id id
theorem wp_items_tup {xs : List D} {Q : List D → Env → Prop} : Wp (itemsM I P (.tup xs)) e Q = Q xs e := by with_unfolding_all exact pr_eq id id
theorem wp_items_str {x : Str} {Q : List D → Env → Prop} : Wp (itemsM I P (.str x)) e Q = Q (x.cps.toList.map fun c => .str ⟨#[c]⟩) e := by with_unfolding_all exact pr_eq id id
theorem bind_one {i : Nat} {x : D} {Q : Unit → Env → Prop} : Wp (bindT [i] false x) e Q = Q () (e.set i (some (.d x))) := by with_unfolding_all exact pr_eq id id
theorem bind_two {i j : Nat} {x y : D} {Q : Unit → Env → Prop} : Wp (bindT [i, j] true (.tup [x, y])) e Q = Q () ((e.set i (some (.d x))).set j (some (.d y))) := by with_unfolding_all exact pr_eq id id
theorem toD_lst {t : Nat} {xs : List D} : Cell.toD t (.lst xs) = .lst t xs := rfl
theorem wp_primlen_own {xs : List D} : Wp (primM I P .len (.new (.lst xs))) e Q = Q (.d (.int xs.length)) e := by with_unfolding_all exact pr_eq id id
theorem wp_primlen_at {i : Nat} {xs : List D} (h : e.get i = some (.own (.lst xs))) : Wp (primM I P .len (.at_ i)) e Q = Q (.d (.int xs.length)) e := by
  show Wp (lenM I P (.at_ i)) e Q = _
  unfold lenM
  rw [wp_bnd, wp_rd_at, h]
  with_unfolding_all rfl
def lenK (K : Nat → Prop) (Z : Prop) [Tg (K, Z)] : Option Sl → Prop
  | some (.own (.lst xs)) => K xs.length
  | _ => Z
theorem lenK_lst {K : Nat → Prop} {Z : Prop} {xs : List D} : lenK K Z (some (.own (.lst xs))) = K xs.length := pr_eq id id
theorem wp_primlen_at' {i : Nat} : Wp (primM I P .len (.at_ i)) e Q = lenK (fun n => Q (.d (.int n)) e) (Wp (lenM I P (.at_ i)) e Q) (e.get i) := by
  cases q : e.get i with
  | none => rfl
  | some s =>
    cases s with
    | d _ => rfl
    | own c =>
      cases c with
      | lst xs => rw [wp_primlen_at q]; rfl
      | obj _ _ _ => rfl
theorem wp_primlen_str {x : Str} : Wp (primM I P .len (.d (.str x))) e Q = Q (.d (.int x.length)) e := by with_unfolding_all exact pr_eq id id
theorem prim_other {p : Prim} {x : W} (h : p ≠ .len) : Wp (primM I P p x) e Q = Wp (rd x) e fun s e1 => Wp (optM (prim1 p s)) e1 Q := by
  cases p <;> first | exact absurd rfl h | (show Wp (bnd _ _) e Q = _; rw [wp_bnd])
theorem pr_list {x : W} : Wp (primM I P .list x) e Q = Wp (rd x) e fun s e1 => Wp (optM (prim1 .list s)) e1 Q := prim_other (by decide)
theorem pr_tuple {x : W} : Wp (primM I P .tuple x) e Q = Wp (rd x) e fun s e1 => Wp (optM (prim1 .tuple s)) e1 Q := prim_other (by decide)
theorem pr_sorted {x : W} : Wp (primM I P .sorted x) e Q = Wp (rd x) e fun s e1 => Wp (optM (prim1 .sorted s)) e1 Q := prim_other (by decide)
theorem pr_max {x : W} : Wp (primM I P .max x) e Q = Wp (rd x) e fun s e1 => Wp (optM (prim1 .max s)) e1 Q := prim_other (by decide)
theorem pr_int {x : W} : Wp (primM I P .int x) e Q = Wp (rd x) e fun s e1 => Wp (optM (prim1 .int s)) e1 Q := prim_other (by decide)
theorem list_lst {t : Nat} {xs : List D} : prim1 .list (.d (.lst t xs)) = some (.new (.lst xs)) := rfl
theorem list_tup {xs : List D} : prim1 .list (.d (.tup xs)) = some (.new (.lst xs)) := rfl
theorem list_own {xs : List D} : prim1 .list (.own (.lst xs)) = some (.new (.lst xs)) := rfl
theorem list_scr {ns : List Int} : prim1 .list (.d (.scr ns)) = some (.new (.lst (ns.map .int))) := rfl
theorem tuple_lst {t : Nat} {xs : List D} : prim1 .tuple (.d (.lst t xs)) = some (.d (.tup xs)) := rfl
theorem tuple_own {xs : List D} : prim1 .tuple (.own (.lst xs)) = some (.d (.tup xs)) := rfl
theorem tuple_tup {xs : List D} : prim1 .tuple (.d (.tup xs)) = some (.d (.tup xs)) := rfl
theorem int_int {i : Int} : prim1 .int (.d (.int i)) = some (.d (.int i)) := rfl
theorem add_str {x y : Str} (h : x.length + y.length ≤ 16777216) : binop .add (.d (.str x)) (.d (.str y)) = some (.d (.str (x ++ y))) := by unfold binop; dsimp only; rw [if_pos h]
theorem add_own {xs ys : List D} (h : xs.length + ys.length ≤ 16777216) : binop .add (.own (.lst xs)) (.own (.lst ys)) = some (.new (.lst (xs ++ ys))) := by
  unfold binop; dsimp only [Sl.lst?]; rw [if_pos h]
theorem add_lo {t : Nat} {xs ys : List D} (h : xs.length + ys.length ≤ 16777216) : binop .add (.d (.lst t xs)) (.own (.lst ys)) = some (.new (.lst (xs ++ ys))) := by
  unfold binop; dsimp only [Sl.lst?]; rw [if_pos h]
theorem add_ol {t : Nat} {xs ys : List D} (h : xs.length + ys.length ≤ 16777216) : binop .add (.own (.lst xs)) (.d (.lst t ys)) = some (.new (.lst (xs ++ ys))) := by
  unfold binop; dsimp only [Sl.lst?]; rw [if_pos h]
theorem add_ll {t u : Nat} {xs ys : List D} (h : xs.length + ys.length ≤ 16777216) : binop .add (.d (.lst t xs)) (.d (.lst u ys)) = some (.new (.lst (xs ++ ys))) := by
  unfold binop; dsimp only [Sl.lst?]; rw [if_pos h]
theorem add_tup {xs ys : List D} (h : xs.length + ys.length ≤ 16777216) : binop .add (.d (.tup xs)) (.d (.tup ys)) = some (.d (.tup (xs ++ ys))) := by
  unfold binop; dsimp only; rw [if_pos h]
theorem mul_str {x : Str} {j : Int} (h : -4611686018427387904 < j ∧ j < 4611686018427387904 ∧ x.length * j.toNat ≤ 16777216) : binop .mul (.d (.str x)) (.d (.int j)) = some (.d (.str (repS x j.toNat))) := by unfold binop; dsimp only; rw [if_pos h]
def sOk (x : Str) : Prop := PyData.strOk x = true
theorem sOk_iff {x : Str} : sOk x ↔ ∀ c ∈ x.cps.toList, c < 0x110000 := by
  unfold sOk PyData.strOk
  rw [Array.all_eq_true_iff_forall_mem]
  simp
theorem sOk.app {x y : Str} (h : sOk x) (h2 : sOk y) : sOk (x ++ y) := by
  rw [sOk_iff] at *
  intro c hc
  have : c ∈ x.cps.toList ++ y.cps.toList := by
    have e : (x ++ y).cps = x.cps ++ y.cps := rfl
    rw [e, Array.toList_append] at hc; exact hc
  rcases List.mem_append.mp this with q | q
  · exact h c q
  · exact h2 c q
def fOk : D → Prop
  | .str x => sOk x
  | .non | .bl _ | .int _ => True
  | _ => False
theorem shaped_flat {x : D} (h : fOk x) : isPy x = true ∧ SeqAt.shaped (py x) = true := by
  cases x with
  | str x =>
    refine ⟨by unfold isPy; rfl, ?_⟩
    unfold py SeqAt.shaped
    have : PyData.canLay0 (.str x) = true := by rw [PyData.canLay0]; exact h
    rw [this]; rfl
  | non => exact ⟨by unfold isPy; rfl, by unfold py; rfl⟩
  | bl b => exact ⟨by unfold isPy; rfl, by unfold py; rfl⟩
  | int i => exact ⟨by unfold isPy; rfl, by unfold py; rfl⟩
  | _ => exact h.elim
theorem cmp_flat {o : Cop} {x y : D} (ho : o = .eq ∨ o = .ne) (hx : fOk x) (hy : fOk y) : cmpop o (.d x) (.d y) = some (if o = .eq then PyData.eqv (py x) (py y) else !PyData.eqv (py x) (py y)) := by
  obtain ⟨a1, a2⟩ := shaped_flat hx
  obtain ⟨b1, b2⟩ := shaped_flat hy
  have c : ((Sl.d x).isPy && (Sl.d y).isPy && SeqAt.shaped (Sl.d x).py && SeqAt.shaped (Sl.d y).py) = true := by
    show (isPy x && isPy y && SeqAt.shaped (py x) && SeqAt.shaped (py y)) = true
    rw [a1, a2, b1, b2]; rfl
  rcases ho with rfl | rfl <;> (unfold cmpop; dsimp only; rw [if_pos c]; rfl)
theorem str_beq (x y : Str) : (x == y) = decide (x = y) := by
  by_cases h : x = y
  · subst h; simp
  · simp [h]
theorem cmp_eqs {x y : Str} (hx : sOk x) (hy : sOk y) : cmpop .eq (.d (.str x)) (.d (.str y)) = some (decide (x = y)) := by
  rw [cmp_flat (x := .str x) (y := .str y) (.inl rfl) hx hy, if_pos rfl]
  show some (x == y) = _
  rw [str_beq]
theorem cmp_nes {x y : Str} (hx : sOk x) (hy : sOk y) : cmpop .ne (.d (.str x)) (.d (.str y)) = some (!decide (x = y)) := by
  rw [cmp_flat (x := .str x) (y := .str y) (.inr rfl) hx hy, if_neg (by decide)]
  show some (!(x == y)) = _
  rw [str_beq]
theorem cmp_eqb {x y : Bool} : cmpop .eq (.d (.bl x)) (.d (.bl y)) = some (x == y) := by
  rw [cmp_flat (x := .bl x) (y := .bl y) (.inl rfl) trivial trivial, if_pos rfl]; rfl
theorem wp_cmp_d {o : Cop} {x : D} {y : W} (h : ∀ c ns xs, x ≠ .obj c ns xs) : Wp (cmpM I P o (.d x) y) e Q = Wp (rd y) e fun t e2 => Wp (optM (cmpop o (.d x) t)) e2 fun b e3 => Q (.d (.bl b)) e3 := by
  rw [wp_cmp (fun s e1 hh => by rw [wp_rd_d] at hh; obtain ⟨rfl, _⟩ := hh; exact objOf_d h)]; with_unfolding_all rfl
theorem wp_cmp_str {o : Cop} {x : Str} {y : W} : Wp (cmpM I P o (.d (.str x)) y) e Q = Wp (rd y) e fun t e2 => Wp (optM (cmpop o (.d (.str x)) t)) e2 fun b e3 => Q (.d (.bl b)) e3 := wp_cmp_d fun _ _ _ h => by cases h
theorem wp_cmp_bl {o : Cop} {x : Bool} {y : W} : Wp (cmpM I P o (.d (.bl x)) y) e Q = Wp (rd y) e fun t e2 => Wp (optM (cmpop o (.d (.bl x)) t)) e2 fun b e3 => Q (.d (.bl b)) e3 := wp_cmp_d fun _ _ _ h => by cases h
theorem wp_cmp_lst {o : Cop} {t : Nat} {x : List D} {y : W} : Wp (cmpM I P o (.d (.lst t x)) y) e Q = Wp (rd y) e fun t2 e2 => Wp (optM (cmpop o (.d (.lst t x)) t2)) e2 fun b e3 => Q (.d (.bl b)) e3 := wp_cmp_d fun _ _ _ h => by cases h
/-- is x one of ys? -/
theorem inD_str {x : Str} {ys : List Str} : inD (.str x) (ys.map D.str) = ys.contains x := by
  unfold inD
  induction ys with
  | nil => rfl
  | cons y ys ih =>
    rw [List.map_cons, List.any_cons, List.contains_cons, ih]
    congr 1
    show (y == x) = (x == y)
    rw [str_beq, str_beq]; by_cases h : x = y
    · subst h; rfl
    · have : ¬ y = x := fun z => h z.symm
      simp [h, this]
theorem flat_strs {ys : List Str} : (ys.map D.str).all flatD = true := by
  rw [List.all_eq_true]
  intro z hz
  obtain ⟨y, _, rfl⟩ := List.mem_map.mp hz
  rfl
theorem isin_strs {x : Str} {s : Sl} {ys : List Str} (h : s.seq? = some (ys.map D.str)) : cmpop .isin (.d (.str x)) s = some (ys.contains x) := by
  have : cmpop .isin (.d (.str x)) s = match s.seq? with | some ys => if flatD (.str x) && ys.all flatD then some (inD (.str x) ys) else none | none => none := by
    cases s with
    | d z => cases z <;> first | rfl | (cases h; done)
    | own c => rfl
  rw [this, h]
  dsimp only
  rw [if_pos (by rw [flat_strs]; rfl), inD_str]
theorem notin_strs {x : Str} {s : Sl} {ys : List Str} (h : s.seq? = some (ys.map D.str)) : cmpop .notin (.d (.str x)) s = some (!ys.contains x) := by
  have : cmpop .notin (.d (.str x)) s = match s.seq? with | some ys => if flatD (.str x) && ys.all flatD then some (!inD (.str x) ys) else none | none => none := by
    cases s with
    | d z => cases z <;> first | rfl | (cases h; done)
    | own c => rfl
  rw [this, h]
  dsimp only
  rw [if_pos (by rw [flat_strs]; rfl), inD_str]
theorem ix_in {n : Nat} {i : Int} (h0 : 0 ≤ i) (h1 : i < n) : ix n i = some i.toNat := by
  unfold ix; rw [if_pos h0, if_pos h1]
/-- a comprehension with a condition whose element is the item, by filter -/
theorem wp_comp_filter {x : Nat} {m0 : M (List D)} {c m : M W} {p : D → Bool} {g : D → D} {Q : W → Env → Prop} (h : Wp m0 e fun xs e1 => xs.length ≤ 16777216 ∧ (∀ y ∈ xs, Wp c ((e1.set x none).set x (some (.d y))) fun k e2 => Wp (tr k) e2 fun b e3 => b = p y ∧ e3 = (e1.set x none).set x (some (.d y))) ∧ (∀ y ∈ xs, Wp m ((e1.set x none).set x (some (.d y))) fun w e2 => Wp (frz w) e2 fun z e3 => z = g y ∧ e3.set x none = e1.set x none) ∧ Q (.new (.lst ((xs.filter p).map g))) (e1.set x none)) : Wp (compM x m0 (eltCM c m)) e Q := by
  unfold compM
  rw [wp_bnd]
  refine h.mono fun xs e1 ⟨hl, hc, hx, hQ⟩ => ?_
  rw [wp_bnd, wp_setSl, wp_bnd]
  have ss : ∀ {e : Env}, (e.set x none).set x none = e.set x none := fun {e} => by
    unfold Env.set; simp
  have ss2 : ∀ {e : Env} {s : Option Sl}, (e.set x s).set x none = e.set x none := fun {e s} => by
    unfold Env.set; simp
  refine wp_compLoop (J := fun ys acc e => e = e1.set x none ∧ (∀ y ∈ ys, y ∈ xs) ∧ acc ++ (ys.filter p).map g = (xs.filter p).map g) (fun acc e ⟨h1, _, h3⟩ => ?_) (fun y ys acc e ⟨h1, h2, h3⟩ => ?_) xs [] _ ⟨rfl, fun _ h => h, rfl⟩
  · rw [wp_eltC]
    subst h1
    refine (hc y (h2 y (List.Mem.head _))).mono fun w e2 h4 => h4.mono fun b e3 ⟨h5, h6⟩ => ?_
    subst h5 h6
    cases hp : p y with
    | true =>
      rw [show ((true = true) = True) from eq_self true, brK_true, wp_elt]
      refine (hx y (h2 y (List.Mem.head _))).mono fun w e2 h4 => h4.mono fun z e3 ⟨h5, h6⟩ => ?_
      subst h5
      rw [List.filter_cons, if_pos hp] at h3
      refine ⟨?_, h6, fun z hz => h2 z (List.Mem.tail _ hz), by rw [← h3]; simp⟩
      have := congrArg List.length h3
      have l2 := List.length_filter_le p xs
      simp at this
      omega
    | false =>
      rw [show ((false = true) = False) from by simp, brK_false]
      rw [List.filter_cons, if_neg (by rw [hp]; decide)] at h3
      exact ⟨by unfold Env.set; simp, fun z hz => h2 z (List.Mem.tail _ hz), h3⟩
  · rw [wp_bnd, wp_setSl, wp_ret, h1, ss]
    rw [List.filter_nil, List.map_nil, List.append_nil] at h3
    rw [h3]; exact hQ
/-- range(n) -/
def rangeD (n : Nat) : List D := (List.range n).map fun (k : Nat) => D.int (k : Int)
theorem rangeD_len {n : Nat} : (rangeD n).length = n := by unfold rangeD; simp
theorem rangeD_mem {n : Nat} {y : D} (h : y ∈ rangeD n) : ∃ k : Nat, k < n ∧ y = .int (k : Int) := by
  unfold rangeD at h
  obtain ⟨k, hk, rfl⟩ := List.mem_map.mp h
  exact ⟨k, List.mem_range.mp hk, rfl⟩
theorem wv_rng0 {b : E} : Wp (ev I P (.rng (.cst (.int 0)) b)) e Q = Wp (ev I P b) e fun y e1 => Wp (rd y) e1 fun t e2 => Wp (optM (intOf t)) e2 fun m e3 => brK (-4611686018427387904 ≤ m ∧ m < 4611686018427387904) (Q (.d (.tup (rangeD m.toNat))) e3) False := by
  rw [wv_rng, wv_cst]
  refine wp_q fun y e1 => ?_
  rw [wp_rd_d]
  refine wp_q fun t e2 => ?_
  cases t with
  | own c => cases c <;> with_unfolding_all rfl
  | d z =>
    cases z with
    | int i =>
      with_unfolding_all show (brK _ _ _ : Prop) = brK _ _ _
      have : ((List.range (i - 0).toNat).map fun (k : Nat) => D.int (0 + (k : Int))) = rangeD i.toNat := by
        unfold rangeD
        rw [Int.sub_zero]
        congr 1
        funext k
        rw [Int.zero_add]
      dsimp only
      rw [this]
      exact propext ⟨fun h => ⟨fun c => h.t ⟨by omega, by omega, c⟩, fun c => h.f fun q => c q.2.2⟩, fun h => ⟨fun c => h.t c.2.2, fun c => h.f fun q => c ⟨by omega, by omega, q⟩⟩⟩
    | _ => with_unfolding_all rfl
theorem rngN {n : Nat} {K : Prop} (h : n < 1000000) (k : K) : brU (-4611686018427387904 ≤ (n : Int) ∧ (n : Int) < 4611686018427387904) K False := ⟨fun _ => k, fun c => (c (by omega)).elim⟩
def isO : Option Sl → Prop
  | some (.own _) => True
  | _ => False
theorem isO_own {c : Cell} : isO (some (.own c)) = True := rfl
def allOwn (e : Env) : List Nat → Prop
  | [] => True
  | j :: js => isO (e.get j) ∧ allOwn e js
theorem allOwn_nil : allOwn e [] = True := rfl
theorem allOwn_cons {j : Nat} {js : List Nat} : allOwn e (j :: js) = (isO (e.get j) ∧ allOwn e js) := rfl
theorem allOwn_iff : ∀ {js : List Nat}, js.all (isOwn e) = true ↔ allOwn e js
  | [] => ⟨fun _ => trivial, fun _ => rfl⟩
  | j :: js => by
    rw [List.all_cons, Bool.and_eq_true, allOwn_iff (js := js), allOwn_cons]
    have : isOwn e j = true ↔ isO (e.get j) := by
      unfold isOwn isO
      cases e.get j with
      | none => simp
      | some s => cases s <;> simp
    rw [this]
def outK (br : List Nat) (e : Env) (i : Nat) (Q : Sl → Env → Prop) [Tg (br, e, i, Q)] : Option Sl → Prop
  | some (.own c) => allOwn e br ∧ Q (.own c) (e.set i none)
  | _ => False
theorem outK_own {i : Nat} {c : Cell} {Q : Sl → Env → Prop} : outK br e i Q (some (.own c)) = (allOwn e br ∧ Q (.own c) (e.set i none)) := pr_eq id id
theorem out_at {i : Nat} {Q : Sl → Env → Prop} : Wp (out br (.at_ i)) e Q = brK (br.contains i = true) (Wp (frz (.at_ i)) e fun x e1 => Q (.d x) e1) (outK br e i Q (e.get i)) := by
  rw [← brK_if]
  have hm : (br.contains i = true) = (i ∈ br) := by simp
  unfold Wp out
  dsimp only
  by_cases h : i ∈ br
  · rw [if_pos h, if_pos (by rw [hm]; exact h)]
    with_unfolding_all show Wp (bnd (frz (.at_ i)) fun x => ret (.d x)) e Q = Wp _ _ _
    rw [wp_bnd]; with_unfolding_all rfl
  · rw [if_neg h, if_neg (by rw [hm]; exact h)]
    cases q : e.get i with
    | none => rfl
    | some s =>
      cases s with
      | d _ => rfl
      | own c =>
        dsimp only
        by_cases ha : br.all (isOwn e) = true
        · rw [if_pos ha]
          exact propext ⟨fun h => ⟨allOwn_iff.mp ha, h⟩, fun h => h.2⟩
        · rw [if_neg ha]
          exact propext ⟨fun h => h.elim, fun h => ha (allOwn_iff.mpr h.1)⟩
theorem ws_app {fuel : Nat} {a b : List S} {e : Env} {Q : Fl → Env → Prop} : Wp (execs I P br fuel (a ++ b)) e Q = Wp (execs I P br fuel a) e (seqK Q fun e1 => Wp (execs I P br fuel b) e1 Q) := by
  induction a generalizing e with
  | nil => rw [List.nil_append, ws_nil]; rfl
  | cons s a ih =>
    rw [List.cons_append, ws_cons, ws_cons]
    refine wp_q fun f e1 => ?_
    cases f with
    | next => exact ih
    | _ => rfl
/-- the first k statements, then the rest -/
theorem ws_cut {fuel : Nat} {l : List S} {e : Env} {Q : Fl → Env → Prop} (k : Nat) (R : Env → Prop) (h : Wp (execs I P br fuel (l.take k)) e fun f e1 => f = .next ∧ R e1) (h2 : ∀ e1, R e1 → Wp (execs I P br fuel (l.drop k)) e1 Q) : Wp (execs I P br fuel l) e Q := by
  rw [← List.take_append_drop k l, ws_app]
  refine h.mono fun f e1 ⟨h3, h4⟩ => ?_
  subst h3
  exact h2 e1 h4
/-- a loop over f's values -/
theorem wp_forMap {α : Type} {f : α → D} {xs : List α} {bd : D → M Unit} {body : M Fl} {e : Env} {Q : Fl → Env → Prop} (J : List α → Env → Prop) (h0 : J [] e) (hend : ∀ e, J xs e → Q .next e)
    (hstep : ∀ done x rest e, xs = done ++ x :: rest → J done e → Wp (bd (f x)) e fun _ e1 => Wp body e1 fun fl e2 => match fl with
      | .next => J (done ++ [x]) e2
      | .cont => J (done ++ [x]) e2
      | .brk => Q .next e2
      | .ret s => Q (.ret s) e2) : Wp (forL bd body (xs.map f)) e Q := by
  refine wp_forL (fun rem e => ∃ done rest, xs = done ++ rest ∧ rem = rest.map f ∧ J done e) ?_ ?_ _ _ ⟨[], xs, rfl, rfl, h0⟩
  · rintro e ⟨done, rest, h1, h2, h3⟩
    have : rest = [] := by
      cases rest with
      | nil => rfl
      | cons _ _ => cases h2
    subst this
    rw [List.append_nil] at h1
    subst h1
    exact hend e h3
  · rintro x rem e ⟨done, rest, h1, h2, h3⟩
    cases rest with
    | nil => cases h2
    | cons y rest =>
      rw [List.map_cons] at h2
      injection h2 with h4 h5
      subst h4 h5
      refine (hstep done y rest e h1 h3).mono fun _ e1 h6 => h6.mono fun fl e2 h7 => ?_
      cases fl with
      | next => exact ⟨done ++ [y], rest, by rw [h1]; simp, rfl, h7⟩
      | cont => exact ⟨done ++ [y], rest, by rw [h1]; simp, rfl, h7⟩
      | brk => exact h7
      | ret s => exact h7
/-- .. whose turns all go on -/
theorem wp_forMapN {α : Type} {f : α → D} {xs : List α} {bd : D → M Unit} {body : M Fl} {e : Env} {Q : Fl → Env → Prop} (J : List α → Env → Prop) (h0 : J [] e) (hend : ∀ e, J xs e → Q .next e)
    (hstep : ∀ done x rest e, xs = done ++ x :: rest → J done e → Wp (bd (f x)) e fun _ e1 => Wp body e1 fun fl e2 => fl = .next ∧ J (done ++ [x]) e2) : Wp (forL bd body (xs.map f)) e Q :=
  wp_forMap J h0 hend fun done x rest e h1 h2 => (hstep done x rest e h1 h2).mono fun _ e1 h3 => h3.mono fun fl e2 ⟨h4, h5⟩ => by subst h4; exact h5
theorem joinc {s : Str} {ys : List Str} {a : Sl} (h : a.seq? = some (ys.map D.str)) (hl : (ys.map (·.length)).sum + ys.length * s.length ≤ 16777216) : joined s a = some (.d (.str (Txt.join s ys))) := by
  unfold joined
  rw [h]
  have : strs? (ys.map D.str) = some ys := by
    clear h hl
    induction ys with
    | nil => rfl
    | cons y ys ih => rw [List.map_cons, strs?, ih]; rfl
  dsimp only
  rw [this]
  dsimp only
  rw [if_pos hl]
theorem join_len (s : Str) : ∀ ys : List Str, (Txt.join s ys).length ≤ (ys.map (·.length)).sum + ys.length * s.length := fun ys => by
  rw [TL.join_eq]
  have al : ∀ x y : Str, (x ++ y).length = x.length + y.length := fun x y => by
    show (x.cps ++ y.cps).size = _
    rw [Array.size_append]; rfl
  induction ys with
  | nil => exact Nat.zero_le _
  | cons y ys ih =>
    cases ys with
    | nil => show y.length ≤ _; simp
    | cons z r =>
      show (y ++ s ++ Str.join s (z :: r)).length ≤ _
      rw [al, al]
      simp only [List.map_cons, List.sum_cons, List.length_cons] at ih ⊢
      have e1 : (r.length + 1 + 1) * s.length = (r.length + 1) * s.length + s.length := by rw [Nat.add_mul (r.length + 1)]; omega
      rw [e1]
      omega
theorem str_app_len (x y : Str) : (x ++ y).length = x.length + y.length := by
  show (x.cps ++ y.cps).size = _
  rw [Array.size_append]; rfl
/-- a comprehension over f's values -/
theorem wp_comp_mapF {α : Type} {f g : α → D} {ys : List α} {x : Nat} {m0 : M (List D)} {m : M W} {e : Env} {Q : W → Env → Prop} (h : Wp m0 e fun xs e1 => xs = ys.map f ∧ ys.length ≤ 16777216 ∧ (∀ y ∈ ys, Wp m ((e1.set x none).set x (some (.d (f y)))) fun w e2 => Wp (frz w) e2 fun z e3 => z = g y ∧ e3.set x none = e1.set x none) ∧ Q (.new (.lst (ys.map g))) (e1.set x none)) : Wp (compM x m0 (eltM m)) e Q := by
  unfold compM
  rw [wp_bnd]
  refine h.mono fun xs e1 ⟨hxs, hl, hx, hQ⟩ => ?_
  subst hxs
  rw [wp_bnd, wp_setSl, wp_bnd]
  have ss : ∀ {e : Env}, (e.set x none).set x none = e.set x none := fun {e} => by
    unfold Env.set; simp
  refine wp_compLoop (J := fun rem acc e => e = e1.set x none ∧ ∃ done rest, ys = done ++ rest ∧ rem = rest.map f ∧ acc = done.map g) (fun acc e ⟨h1, done, rest, h2, h3, h4⟩ => ?_) (fun y rem acc e ⟨h1, done, rest, h2, h3, h4⟩ => ?_) _ [] _ ⟨rfl, [], ys, rfl, rfl, rfl⟩
  · rw [wp_elt]
    cases rest with
    | nil => cases h3
    | cons z rest =>
      rw [List.map_cons] at h3
      injection h3 with h5 h6
      subst h1 h5 h6 h4
      refine (hx z (by rw [h2]; simp)).mono fun w e2 h4 => h4.mono fun z' e3 ⟨h5, h6⟩ => ?_
      subst h5
      have := congrArg List.length h2
      simp at this
      refine ⟨by rw [List.length_map]; omega, h6, done ++ [z], rest, by rw [h2]; simp, rfl, by simp⟩
  · have : rest = [] := by
      cases rest with
      | nil => rfl
      | cons _ _ => cases h3
    subst this
    rw [List.append_nil] at h2
    subst h2
    rw [wp_bnd, wp_setSl, wp_ret, h1, ss, h4]
    exact hQ
theorem wv_compN {y : Nat} {src elt : E} : Wp (ev I P (.comp y src none elt)) e Q = Wp (compM y (bnd (ev I P src) fun w => bnd (frz w) fun d => itemsM I P d) (eltM (ev I P elt))) e Q := wv_comp
theorem ty_non_int  : isTy (.d (D.non)) .int = false := rfl
theorem ty_non_bool  : isTy (.d (D.non)) .bool = false := rfl
theorem ty_non_str  : isTy (.d (D.non)) .str = false := rfl
theorem ty_non_tuple  : isTy (.d (D.non)) .tuple = false := rfl
theorem ty_non_list  : isTy (.d (D.non)) .list = false := rfl
theorem tyOk_non  : tyOk (.d (D.non)) = true := rfl
theorem isNon_non  : isNonS (.d (D.non)) = true := rfl
theorem ty_bl_int {b : Bool} : isTy (.d (D.bl b)) .int = true := rfl
theorem ty_bl_bool {b : Bool} : isTy (.d (D.bl b)) .bool = true := rfl
theorem ty_bl_str {b : Bool} : isTy (.d (D.bl b)) .str = false := rfl
theorem ty_bl_tuple {b : Bool} : isTy (.d (D.bl b)) .tuple = false := rfl
theorem ty_bl_list {b : Bool} : isTy (.d (D.bl b)) .list = false := rfl
theorem tyOk_bl {b : Bool} : tyOk (.d (D.bl b)) = true := rfl
theorem isNon_bl {b : Bool} : isNonS (.d (D.bl b)) = false := rfl
theorem ty_int_int {k : Int} : isTy (.d (D.int k)) .int = true := rfl
theorem ty_int_bool {k : Int} : isTy (.d (D.int k)) .bool = false := rfl
theorem ty_int_str {k : Int} : isTy (.d (D.int k)) .str = false := rfl
theorem ty_int_tuple {k : Int} : isTy (.d (D.int k)) .tuple = false := rfl
theorem ty_int_list {k : Int} : isTy (.d (D.int k)) .list = false := rfl
theorem tyOk_int {k : Int} : tyOk (.d (D.int k)) = true := rfl
theorem isNon_int {k : Int} : isNonS (.d (D.int k)) = false := rfl
theorem ty_str_int {x : Str} : isTy (.d (D.str x)) .int = false := rfl
theorem ty_str_bool {x : Str} : isTy (.d (D.str x)) .bool = false := rfl
theorem ty_str_str {x : Str} : isTy (.d (D.str x)) .str = true := rfl
theorem ty_str_tuple {x : Str} : isTy (.d (D.str x)) .tuple = false := rfl
theorem ty_str_list {x : Str} : isTy (.d (D.str x)) .list = false := rfl
theorem tyOk_str {x : Str} : tyOk (.d (D.str x)) = true := rfl
theorem isNon_str {x : Str} : isNonS (.d (D.str x)) = false := rfl
theorem ty_tup_int {xs : List D} : isTy (.d (D.tup xs)) .int = false := rfl
theorem ty_tup_bool {xs : List D} : isTy (.d (D.tup xs)) .bool = false := rfl
theorem ty_tup_str {xs : List D} : isTy (.d (D.tup xs)) .str = false := rfl
theorem ty_tup_tuple {xs : List D} : isTy (.d (D.tup xs)) .tuple = true := rfl
theorem ty_tup_list {xs : List D} : isTy (.d (D.tup xs)) .list = false := rfl
theorem tyOk_tup {xs : List D} : tyOk (.d (D.tup xs)) = true := rfl
theorem isNon_tup {xs : List D} : isNonS (.d (D.tup xs)) = false := rfl
theorem ty_lst_int {u : Nat} {xs : List D} : isTy (.d (D.lst u xs)) .int = false := rfl
theorem ty_lst_bool {u : Nat} {xs : List D} : isTy (.d (D.lst u xs)) .bool = false := rfl
theorem ty_lst_str {u : Nat} {xs : List D} : isTy (.d (D.lst u xs)) .str = false := rfl
theorem ty_lst_tuple {u : Nat} {xs : List D} : isTy (.d (D.lst u xs)) .tuple = false := rfl
theorem ty_lst_list {u : Nat} {xs : List D} : isTy (.d (D.lst u xs)) .list = true := rfl
theorem tyOk_lst {u : Nat} {xs : List D} : tyOk (.d (D.lst u xs)) = true := rfl
theorem isNon_lst {u : Nat} {xs : List D} : isNonS (.d (D.lst u xs)) = false := rfl
theorem ty_obj_int {c : Nat} {ns : List Nat} {xs : List D} : isTy (.d (D.obj c ns xs)) .int = false := rfl
theorem ty_obj_bool {c : Nat} {ns : List Nat} {xs : List D} : isTy (.d (D.obj c ns xs)) .bool = false := rfl
theorem ty_obj_str {c : Nat} {ns : List Nat} {xs : List D} : isTy (.d (D.obj c ns xs)) .str = false := rfl
theorem ty_obj_tuple {c : Nat} {ns : List Nat} {xs : List D} : isTy (.d (D.obj c ns xs)) .tuple = false := rfl
theorem ty_obj_list {c : Nat} {ns : List Nat} {xs : List D} : isTy (.d (D.obj c ns xs)) .list = false := rfl
theorem tyOk_obj {c : Nat} {ns : List Nat} {xs : List D} : tyOk (.d (D.obj c ns xs)) = true := rfl
theorem isNon_obj {c : Nat} {ns : List Nat} {xs : List D} : isNonS (.d (D.obj c ns xs)) = false := rfl
theorem ty_own_list {xs : List D} : isTy (.own (.lst xs)) .list = true := rfl
theorem ty_own_tuple {xs : List D} : isTy (.own (.lst xs)) .tuple = false := rfl
theorem any1 {α : Type} {p : α → Bool} {a : α} : [a].any p = p a := by simp
theorem any2 {α : Type} {p : α → Bool} {a b : α} : [a, b].any p = (p a || p b) := by simp
def objK (K : Nat → List Nat → List D → Prop) [Tg K] : Option Sl → Prop
  | some (.own (.obj c ns xs)) => K c ns xs
  | _ => False
theorem objK_obj {K : Nat → List Nat → List D → Prop} {c : Nat} {ns : List Nat} {xs : List D} : objK K (some (.own (.obj c ns xs))) = K c ns xs := pr_eq id id
theorem wst_setFld {fuel i f : Nat} {a : E} {Q : Fl → Env → Prop} : Wp (exec I P br fuel (.setFld i f a)) e Q = Wp (ev I P a) e fun w e1 => Wp (frz w) e1 fun x e2 => objK (fun c ns xs => brK (ns.length < 1000) (Q .next (e2.set i (some (.own (.obj c (putF f x ns xs).1 (putF f x ns xs).2))))) False) (e2.get i) := by
  rw [exec, wp_bnd]
  refine wp_q fun w e1 => ?_
  rw [wp_bnd]
  refine wp_q fun x e2 => ?_
  unfold Wp
  dsimp only
  cases q : e2.get i with
  | none => rfl
  | some s =>
    cases s with
    | d _ => rfl
    | own c =>
      cases c with
      | lst _ => rfl
      | obj c ns xs =>
        show _ = brK _ _ _
        rw [← brK_if]
        dsimp only
        by_cases hc : ns.length < 1000
        · rw [if_pos hc, if_pos hc]
        · rw [if_neg hc, if_neg hc]
theorem put_nil {f : Nat} {y : D} : putF f y [] [] = ([f], [y]) := rfl
theorem put_ne {f n : Nat} {y x : D} {ns : List Nat} {xs : List D} (h : n ≠ f) : putF f y (n :: ns) (x :: xs) = (n :: (putF f y ns xs).1, x :: (putF f y ns xs).2) := by
  rw [putF, if_neg h]
theorem objOf_obj {c : Nat} {ns : List Nat} {xs : List D} : objOf (.d (.obj c ns xs)) = some (c, ns, xs) := rfl
theorem objOf_own {c : Nat} {ns : List Nat} {xs : List D} : objOf (.own (.obj c ns xs)) = some (c, ns, xs) := rfl
theorem fld_eq {f : Nat} {ns : List Nat} {x : D} {xs : List D} : fldAt f (f :: ns) (x :: xs) = some x := by rw [fldAt, if_pos rfl]
theorem fld_ne {f n : Nat} {ns : List Nat} {x : D} {xs : List D} (h : n ≠ f) : fldAt f (n :: ns) (x :: xs) = fldAt f ns xs := by rw [fldAt, if_neg h]
theorem wp_cmp_obj {c : Nat} {ns ns' : List Nat} {xs xs' : List D} : Wp (cmpM I P .eq (.d (.obj c ns xs)) (.d (.obj c ns' xs'))) e Q = Wp (optM (I.eqm c)) e fun f e1 => Wp (callM P f [.d (.obj c ns xs), .d (.obj c ns' xs')]) e1 fun w e2 => Wp (ansB w) e2 Q := by
  unfold cmpM
  rw [wp_bnd, wp_rd_d, wp_bnd, wp_rd_d]
  dsimp only [objOf]
  rw [if_pos rfl, wp_bnd, wp_frz_d, wp_bnd, wp_frz_d]
  simp only [wp_bnd]; repeat (refine wp_q fun _ _ => ?_; try simp only [wp_bnd])
theorem wp_len_obj {c : Nat} {ns : List Nat} {xs : List D} : Wp (primM I P .len (.d (.obj c ns xs))) e Q = Wp (optM (I.lenm c)) e fun f e1 => Wp (callM P f [.d (.obj c ns xs)]) e1 fun w e2 => Wp (ansN w) e2 Q := by
  show Wp (lenM I P _) e Q = _
  unfold lenM
  rw [wp_bnd, wp_rd_d]
  dsimp only [objOf]
  rw [wp_bnd, wp_frz_d]
  simp only [wp_bnd]; repeat (refine wp_q fun _ _ => ?_; try simp only [wp_bnd])
theorem ansB_bl {b : Bool} : Wp (ansB (.d (.bl b))) e Q = Q (.d (.bl b)) e := by with_unfolding_all rfl
theorem ansN_nat {n : Nat} (h : n < 1000000) : Wp (ansN (.d (.int (n : Int)))) e Q = Q (.d (.int (n : Int))) e := by
  unfold ansN
  dsimp only
  rw [if_pos (by omega)]
  with_unfolding_all rfl
def tupK (K : List D → Prop) : W → Prop
  | .d (.tup xs) => K xs
  | _ => False
theorem tupK_tup {K : List D → Prop} {xs : List D} : tupK K (.d (.tup xs)) = K xs := pr_eq id id
theorem wp_items_obj {c : Nat} {ns : List Nat} {xs : List D} {Q : List D → Env → Prop} : Wp (itemsM I P (.obj c ns xs)) e Q = Wp (optM (I.iterm c)) e fun f e1 => Wp (callM P f [.d (.obj c ns xs)]) e1 fun w e2 => tupK (fun ys => Q ys e2) w := by
  show Wp (bnd _ _) e Q = _
  rw [wp_bnd]
  refine wp_q fun f e1 => ?_
  rw [wp_bnd]
  refine wp_q fun w e2 => ?_
  cases w with
  | d x => cases x <;> with_unfolding_all rfl
  | _ => with_unfolding_all rfl
end
end MV
set_option maxHeartbeats 0
namespace MV
open PySem
/-- Kind.__init__ -/
def n_KindD_initD : List Str := ["self", "columns", "level", "names", "pair"]
def f_KindD_initD : FnI where
  nl := 5
  np := 2
  br := [0]
  body := [.asgT [2, 3] (.call 16 [.var 1, .cst (.str ""), .cst (.int 1), .tup []]),
    .ite (.cmp .gt (.prim .len (.var 3)) (.glob 3)) [.bad] [],
    .setFld 0 0 (.var 2),
    .setFld 0 1 (.call 18 [.var 2]),
    .setFld 0 2 (.prim .tuple (.call 17 [.var 2])),
    .setFld 0 3 (.idx (.var 2) (.cst (.int 0))),
    .setFld 0 4 (.prim .tuple (.comp 4 (.idx (.var 2) (.cst (.int 1))) none (.idx (.var 4) (.cst (.int 0)))))]
/-- Kind.__eq__ -/
def n_KindD_eqD : List Str := ["self", "other"]
def f_KindD_eqD : FnI where
  nl := 2
  np := 2
  br := []
  body := [.ite (.not (.isin (.var 1) [.cls 0 [0]])) [.bad] [],
    .ret (.cmp .eq (.attr (.var 0) 1) (.attr (.var 1) 1))]
/-- Kind.__len__ -/
def n_KindD_lenD : List Str := ["self"]
def f_KindD_lenD : FnI where
  nl := 1
  np := 1
  br := []
  body := [.ret (.prim .len (.attr (.var 0) 2))]
/-- Kind.__iter__ -/
def n_KindD_iterD : List Str := ["self"]
def f_KindD_iterD : FnI where
  nl := 1
  np := 1
  br := []
  body := [.ret (.attr (.var 0) 2)]
/-- _law_all -/
def n__law_all : List Str := ["_law_level_here", "_law_names_here", "_law_pair"]
def f__law_all : FnI where
  nl := 3
  np := 1
  br := []
  body := [.asg 1 (.prim .list (.idx (.var 0) (.cst (.int 0)))),
    .for_ [2] false (.idx (.var 0) (.cst (.int 1))) [.asg 1 (.bin .add (.bin .add (.var 1) (.lst [.idx (.var 2) (.cst (.int 0))])) (.call 4 [.idx (.var 2) (.cst (.int 1))]))],
    .ret (.var 1)]
/-- _law_copied -/
def n__law_copied : List Str := ["_law_given_here", "_law_part"]
def f__law_copied : FnI where
  nl := 2
  np := 1
  br := []
  body := [.ite (.isin (.var 0) [.list]) [.ret (.comp 1 (.var 0) none (.call 5 [.var 1]))] [],
    .ite (.isin (.var 0) [.tuple]) [.ret (.prim .tuple (.comp 1 (.var 0) none (.call 5 [.var 1])))] [],
    .ret (.var 0)]
/-- _law_given -/
def n__law_given : List Str := ["_law_state", "_law_level_here", "_law_entries", "_law_pair", "_law_turn", "_law_entry"]
def f__law_given : FnI where
  nl := 6
  np := 2
  br := [0]
  body := [.asg 2 (.prim .list (.idx (.var 1) (.cst (.int 0)))),
    .for_ [3] false (.idx (.var 1) (.cst (.int 1))) [.asg 5 (.lst [.idx (.var 3) (.cst (.int 0)), .call 6 [.ref 0, .idx (.var 3) (.cst (.int 1))]]), .ite (.cmp .eq (.call 19 [.ref 0, .cst (.int 2)]) (.cst (.int 1))) [.asg 5 (.prim .tuple (.var 5))] [], .insert 2 (.call 19 [.ref 0, .bin .add (.prim .len (.var 2)) (.cst (.int 1))]) (.var 5)],
    .asg 4 (.call 19 [.ref 0, .prim .len (.var 2)]),
    .asg 2 (.bin .add (.slc (.var 2) (some (.var 4)) none) (.slc (.var 2) none (some (.var 4)))),
    .ite (.cmp .eq (.call 19 [.ref 0, .cst (.int 2)]) (.cst (.int 0))) [.asg 2 (.rev (.var 2))] [],
    .ite (.cmp .eq (.call 19 [.ref 0, .cst (.int 3)]) (.cst (.int 1))) [.ret (.prim .tuple (.var 2))] [],
    .ret (.var 2)]
/-- _law_grown -/
def n__law_grown : List Str := ["_law_state", "_law_level_here", "_law_spare", "_law_mode", "_law_k", "_law_homes_here", "_law_path", "_law_deeper", "_law_here", "_law_plain"]
def f__law_grown : FnI where
  nl := 10
  np := 3
  br := [0, 2]
  body := [.asg 3 (.call 19 [.ref 0, .cst (.int 3)]),
    .for_ [4] false (.rng (.cst (.int 0)) (.call 12 [.ref 0, .lst [.cst (.int 1), .cst (.int 12), .cst (.int 0), .cst (.int 4)]])) [.asg 5 (.call 21 [.var 1, .lst []]), .asg 6 (.idx (.var 5) (.cst (.int (-1)))), .asg 7 (.cst (.int 1)), .ite (.cmp .ne (.var 3) (.cst (.int 1))) [.asg 6 (.call 12 [.ref 0, .var 5]), .asg 7 (.call 19 [.ref 0, .cst (.int 2)])] [], .asg 8 (.call 20 [.var 1, .var 6]), .ite (.and (.cmp .eq (.var 7) (.cst (.int 1))) (.and (.cmp .lt (.prim .len (.var 6)) (.cst (.int 3))) (.cmp .gt (.prim .len (.var 2)) (.cst (.int 1))))) [.asg 9 (.pop 2), .asg 1 (.call 22 [.var 1, .var 6, .lst [.idx (.var 8) (.cst (.int 0)), .prim .sorted (.bin .add (.idx (.var 8) (.cst (.int 1))) (.lst [.lst [.pop 2, .lst [.lst [.var 9], .lst []]]]))]])] [.ite (.cmp .ne (.var 2) (.lst [])) [.asg 1 (.call 22 [.var 1, .var 6, .lst [.prim .sorted (.bin .add (.idx (.var 8) (.cst (.int 0))) (.lst [.pop 2])), .idx (.var 8) (.cst (.int 1))]])] []]],
    .ret (.var 1)]
/-- _law_kind_is -/
def n__law_kind_is : List Str := ["_law_kind", "_law_level_here", "_law_every", "_law_each", "_law_pair"]
def f__law_kind_is : FnI where
  nl := 5
  np := 2
  br := []
  body := [.asg 2 (.call 4 [.var 1]),
    .ite (.or (.not (.call 14 [.attr (.var 0) 1, .call 9 [.var 1]])) (.not (.call 14 [.attr (.var 0) 2, .prim .tuple (.var 2)]))) [.ret (.cst (.bl false))] [],
    .ite (.or (.not (.call 14 [.attr (.var 0) 3, .prim .tuple (.idx (.var 1) (.cst (.int 0)))])) (.not (.call 14 [.attr (.var 0) 4, .prim .tuple (.comp 4 (.idx (.var 1) (.cst (.int 1))) none (.idx (.var 4) (.cst (.int 0))))]))) [.ret (.cst (.bl false))] [],
    .ite (.or (.not (.call 14 [.prop (.var 0) 0, .call 24 [.var 1]])) (.not (.call 14 [.prim .len (.var 0), .prim .len (.var 2)]))) [.ret (.cst (.bl false))] [],
    .ret (.call 14 [.comp 3 (.var 0) none (.var 3), .var 2])]
/-- _law_kind_text -/
def n__law_kind_text : List Str := ["_law_level_here", "_law_parts", "_law_pair"]
def f__law_kind_text : FnI where
  nl := 3
  np := 1
  br := []
  body := [.asg 1 (.prim .list (.idx (.var 0) (.cst (.int 0)))),
    .for_ [2] false (.idx (.var 0) (.cst (.int 1))) [.append 1 (.bin .add (.bin .add (.bin .add (.idx (.var 2) (.cst (.int 0))) (.cst (.str "("))) (.call 9 [.idx (.var 2) (.cst (.int 1))])) (.cst (.str ")")))],
    .ret (.join (.cst (.str " ")) (.var 1))]
/-- _law_level -/
def n__law_level : List Str := ["_law_state", "_law_names_here", "_law_depth_here", "_law_many", "_law_plain", "_law_tables", "_law_inner_here", "_law_k", "_law_name"]
def f__law_level : FnI where
  nl := 9
  np := 3
  br := [0, 1]
  body := [.asg 3 (.bin .add (.cst (.int 1)) (.call 19 [.ref 0, .cst (.int 2)])),
    .ite (.cmp .gt (.var 2) (.cst (.int 2))) [.asg 3 (.cst (.int 1))] [],
    .asg 4 (.prim .sorted (.comp 7 (.rng (.cst (.int 0)) (.var 3)) none (.pop 1))),
    .asg 5 (.cst (.int 0)),
    .ite (.cmp .eq (.var 2) (.cst (.int 1))) [.asg 5 (.call 12 [.ref 0, .lst [.cst (.int 1), .cst (.int 2), .cst (.int 0)]])] [],
    .ite (.cmp .eq (.var 2) (.cst (.int 2))) [.asg 5 (.call 19 [.ref 0, .cst (.int 2)])] [],
    .asg 6 (.lst []),
    .for_ [7] false (.rng (.cst (.int 0)) (.var 5)) [.asg 8 (.pop 1), .ite (.cmp .eq (.var 7) (.cst (.int 0))) [.append 6 (.lst [.var 8, .call 10 [.ref 0, .ref 1, .bin .add (.var 2) (.cst (.int 1))]])] [.append 6 (.lst [.var 8, .lst [.lst [.pop 1], .lst []]])]],
    .ret (.lst [.var 4, .prim .sorted (.var 6)])]
/-- _law_names -/
def n__law_names : List Str := ["_law_state", "_law_count", "_law_letters", "_law_start_here", "_law_step", "_law_mode", "_law_own", "_law_rest", "_law_fill", "_law_names_here", "_law_k", "_law_size", "_law_place", "_law_letter"]
def f__law_names : FnI where
  nl := 14
  np := 2
  br := [0]
  body := [.asg 2 (.cst (.str "abcdefghijklmnopqrstuvwxyz")),
    .asg 3 (.call 19 [.ref 0, .cst (.int 26)]),
    .asg 4 (.call 12 [.ref 0, .lst [.cst (.int 1), .cst (.int 3), .cst (.int 5), .cst (.int 7), .cst (.int 9), .cst (.int 11)]]),
    .asg 5 (.call 19 [.ref 0, .cst (.int 64)]),
    .asg 6 (.comp 10 (.rng (.cst (.int 0)) (.var 1)) none (.idx (.var 2) (.bin .mod (.prim .int (.bin .add (.var 3) (.bin .mul (.var 10) (.var 4)))) (.cst (.int 26))))),
    .asg 7 (.comp 13 (.var 2) (some (.cmp .notin (.var 13) (.var 6))) (.var 13)),
    .asg 8 (.idx (.var 7) (.bin .mod (.prim .int (.var 5)) (.prim .len (.var 7)))),
    .asg 9 (.lst []),
    .for_ [10] false (.rng (.cst (.int 0)) (.var 1)) [.asg 11 (.cst (.int 1)), .ite (.cmp .eq (.bin .mod (.prim .int (.var 5)) (.cst (.int 2))) (.cst (.int 1))) [.asg 11 (.bin .add (.cst (.int 1)) (.bin .mod (.prim .int (.bin .add (.bin .fdiv (.var 5) (.cst (.int 2))) (.bin .mul (.cst (.int 3)) (.var 10)))) (.cst (.int 8))))] [], .asg 12 (.bin .mod (.prim .int (.bin .add (.bin .fdiv (.var 5) (.cst (.int 4))) (.var 10))) (.var 11)), .append 9 (.bin .add (.bin .add (.bin .mul (.var 8) (.var 12)) (.idx (.var 6) (.var 10))) (.bin .mul (.var 8) (.bin .sub (.bin .sub (.var 11) (.cst (.int 1))) (.var 12))))],
    .ret (.var 9)]
/-- _law_pick -/
def n__law_pick : List Str := ["_law_state", "_law_things"]
def f__law_pick : FnI where
  nl := 2
  np := 2
  br := [0]
  body := [.ret (.idx (.var 1) (.call 19 [.ref 0, .prim .len (.var 1)]))]
/-- _law_renamed -/
def n__law_renamed : List Str := ["_law_level_here", "_law_old", "_law_new", "_law_plain", "_law_inner_here", "_law_x", "_law_pair"]
def f__law_renamed : FnI where
  nl := 7
  np := 3
  br := []
  body := [.asg 3 (.comp 5 (.idx (.var 0) (.cst (.int 0))) none (.ite (.cmp .eq (.var 5) (.var 1)) (.var 2) (.var 5))),
    .asg 4 (.comp 6 (.idx (.var 0) (.cst (.int 1))) none (.lst [.ite (.cmp .eq (.idx (.var 6) (.cst (.int 0))) (.var 1)) (.var 2) (.idx (.var 6) (.cst (.int 0))), .call 13 [.idx (.var 6) (.cst (.int 1)), .var 1, .var 2]])),
    .ret (.lst [.prim .sorted (.var 3), .prim .sorted (.var 4)])]
/-- _law_same -/
def n__law_same : List Str := ["_law_actual", "_law_expected", "_law_k"]
def f__law_same : FnI where
  nl := 3
  np := 2
  br := []
  body := [.ite (.isNone (.var 1)) [.ret (.isNone (.var 0))] [],
    .ite (.isin (.var 1) [.bool]) [.ret (.and (.isin (.var 0) [.bool]) (.cmp .eq (.var 0) (.var 1)))] [],
    .ite (.isin (.var 1) [.int]) [.ret (.and (.isin (.var 0) [.int]) (.and (.not (.isin (.var 0) [.bool])) (.cmp .eq (.var 0) (.var 1))))] [],
    .ite (.isin (.var 1) [.str]) [.ret (.and (.isin (.var 0) [.str]) (.cmp .eq (.var 0) (.var 1)))] [],
    .ite (.and (.isin (.var 1) [.tuple]) (.not (.isin (.var 0) [.tuple]))) [.ret (.cst (.bl false))] [],
    .ite (.and (.isin (.var 1) [.list]) (.not (.isin (.var 0) [.list]))) [.ret (.cst (.bl false))] [],
    .ite (.cmp .ne (.prim .len (.var 0)) (.prim .len (.var 1))) [.ret (.cst (.bl false))] [],
    .for_ [2] false (.rng (.cst (.int 0)) (.prim .len (.var 1))) [.ite (.not (.call 14 [.idx (.var 0) (.var 2), .idx (.var 1) (.var 2)])) [.ret (.cst (.bl false))] []],
    .ret (.cst (.bl true))]
/-- _law_start -/
def n__law_start : List Str := ["_law_script"]
def f__law_start : FnI where
  nl := 1
  np := 1
  br := []
  body := [.ret (.lst [.prim .list (.var 0), .cst (.int 0), .cst (.int 0), .cst (.int 0), .cst (.bl false)])]
/-- checked_level -/
def n_checked_level : List Str := ["columns", "home", "number", "seen", "plain", "inner", "column", "is_plain", "name", "below"]
def f_checked_level : FnI where
  nl := 10
  np := 4
  br := []
  body := [.asg 4 (.lst []),
    .asg 5 (.lst []),
    .for_ [6] false (.var 0) [.asg 7 (.isin (.var 6) [.str]), .asg 8 (.var 6), .ite (.not (.var 7)) [.asg 8 (.idx (.var 6) (.cst (.int 0)))] [], .ite (.not (.call 25 [.var 8])) [.bad] [], .ite (.cmp .isin (.var 8) (.var 3)) [.bad] [], .asg 3 (.bin .add (.var 3) (.tup [.var 8])), .ite (.var 7) [.append 4 (.var 8)] [.ite (.cmp .eq (.var 2) (.glob 2)) [.bad] [], .asgT [9, 3] (.call 16 [.idx (.var 6) (.cst (.int 1)), .var 8, .bin .add (.var 2) (.cst (.int 1)), .var 3]), .append 5 (.tup [.var 8, .var 9])]],
    .ite (.not (.var 4)) [.bad] [],
    .ret (.tup [.tup [.prim .tuple (.prim .sorted (.var 4)), .prim .tuple (.prim .sorted (.var 5))], .var 3])]
/-- level_names -/
def n_level_names : List Str := ["level", "names", "name", "below"]
def f_level_names : FnI where
  nl := 4
  np := 1
  br := []
  body := [.asg 1 (.prim .list (.idx (.var 0) (.cst (.int 0)))),
    .for_ [2, 3] true (.idx (.var 0) (.cst (.int 1))) [.asg 1 (.bin .add (.bin .add (.var 1) (.lst [.var 2])) (.call 17 [.var 3]))],
    .ret (.var 1)]
/-- level_text -/
def n_level_text : List Str := ["level", "parts", "name", "below"]
def f_level_text : FnI where
  nl := 4
  np := 1
  br := []
  body := [.asg 1 (.prim .list (.idx (.var 0) (.cst (.int 0)))),
    .for_ [2, 3] true (.idx (.var 0) (.cst (.int 1))) [.append 1 (.bin .add (.bin .add (.bin .add (.var 2) (.cst (.str "("))) (.call 18 [.var 3])) (.cst (.str ")")))],
    .ret (.join (.cst (.str " ")) (.var 1))]
/-- _law_draw -/
def n__law_draw : List Str := ["_law_state", "_law_limit", "_law_number", "_law_cell"]
def f__law_draw : FnI where
  nl := 4
  np := 2
  br := [0]
  body := [.ite (.cmp .eq (.idx (.var 0) (.cst (.int 3))) (.cst (.int 0))) [.ite (.cmp .ge (.idx (.var 0) (.cst (.int 1))) (.prim .len (.idx (.var 0) (.cst (.int 0))))) [.ret (.cst (.int 0))] [], .asg 3 (.idx (.idx (.var 0) (.cst (.int 0))) (.idx (.var 0) (.cst (.int 1)))), .setIx 0 (.cst (.int 1)) (.bin .add (.idx (.var 0) (.cst (.int 1))) (.cst (.int 1))), .ite (.chain .le .lt (.cst (.int 0)) (.var 3) (.cst (.int 1000))) [.ret (.bin .mod (.prim .int (.var 3)) (.var 1))] [], .setIx 0 (.cst (.int 2)) (.var 3), .setIx 0 (.cst (.int 3)) (.cst (.int 6)), .setIx 0 (.cst (.int 4)) (.cmp .ge (.var 3) (.bin .pow (.cst (.int 10)) (.cst (.int 18)))), .ite (.idx (.var 0) (.cst (.int 4))) [.setIx 0 (.cst (.int 3)) (.cst (.int 60))] []] [],
    .setIx 0 (.cst (.int 3)) (.bin .sub (.idx (.var 0) (.cst (.int 3))) (.cst (.int 1))),
    .asg 2 (.idx (.var 0) (.cst (.int 2))),
    .ite (.idx (.var 0) (.cst (.int 4))) [.setIx 0 (.cst (.int 2)) (.bin .fdiv (.var 2) (.var 1)), .ite (.cmp .eq (.idx (.var 0) (.cst (.int 2))) (.cst (.int 0))) [.setIx 0 (.cst (.int 3)) (.cst (.int 0))] [], .ret (.bin .mod (.prim .int (.var 2)) (.var 1))] [],
    .asg 2 (.bin .mod (.prim .int (.bin .add (.bin .mul (.var 2) (.cst (.int 48271))) (.cst (.int 11)))) (.cst (.int 2147483647))),
    .setIx 0 (.cst (.int 2)) (.var 2),
    .ret (.bin .mod (.bin .fdiv (.bin .mod (.prim .int (.bin .add (.bin .mul (.var 2) (.cst (.int 69621))) (.cst (.int 7)))) (.cst (.int 2147483629))) (.cst (.int 8))) (.var 1))]
/-- _law_at -/
def n__law_at : List Str := ["_law_level_here", "_law_path", "_law_name"]
def f__law_at : FnI where
  nl := 3
  np := 2
  br := []
  body := [.for_ [2] false (.var 1) [.asg 0 (.call 26 [.var 0, .var 2])],
    .ret (.var 0)]
/-- _law_homes -/
def n__law_homes : List Str := ["_law_level_here", "_law_path", "_law_homes_here", "_law_pair"]
def f__law_homes : FnI where
  nl := 4
  np := 2
  br := []
  body := [.asg 2 (.lst [.var 1]),
    .for_ [3] false (.idx (.var 0) (.cst (.int 1))) [.asg 2 (.bin .add (.var 2) (.call 21 [.idx (.var 3) (.cst (.int 1)), .bin .add (.var 1) (.lst [.idx (.var 3) (.cst (.int 0))])]))],
    .ret (.var 2)]
/-- _law_with -/
def n__law_with : List Str := ["_law_level_here", "_law_path", "_law_fresh", "_law_inner_here", "_law_pair"]
def f__law_with : FnI where
  nl := 5
  np := 3
  br := []
  body := [.ite (.cmp .eq (.var 1) (.lst [])) [.ret (.var 2)] [],
    .asg 3 (.lst []),
    .for_ [4] false (.idx (.var 0) (.cst (.int 1))) [.ite (.cmp .eq (.idx (.var 4) (.cst (.int 0))) (.idx (.var 1) (.cst (.int 0)))) [.append 3 (.lst [.idx (.var 4) (.cst (.int 0)), .call 22 [.idx (.var 4) (.cst (.int 1)), .slc (.var 1) (some (.cst (.int 1))) none, .var 2]])] [.append 3 (.var 4)]],
    .ret (.lst [.idx (.var 0) (.cst (.int 0)), .var 3])]
/-- Kind.levels -/
def n_Kind_levels : List Str := ["self"]
def f_Kind_levels : FnI where
  nl := 1
  np := 1
  br := []
  body := [.ret (.call 27 [.attr (.var 0) 0])]
/-- _law_depth -/
def n__law_depth : List Str := ["_law_level_here", "_law_pair"]
def f__law_depth : FnI where
  nl := 2
  np := 1
  br := []
  body := [.ret (.bin .add (.cst (.int 1)) (.prim .max (.bin .add (.lst [.cst (.int 0)]) (.comp 1 (.idx (.var 0) (.cst (.int 1))) none (.call 24 [.idx (.var 1) (.cst (.int 1))])))))]
/-- valid_name -/
def n_valid_name : List Str := ["name", "letter"]
def f_valid_name : FnI where
  nl := 2
  np := 1
  br := []
  body := [.ite (.or (.not (.isin (.var 0) [.str])) (.not (.chain .le .le (.cst (.int 1)) (.prim .len (.var 0)) (.glob 1)))) [.ret (.cst (.bl false))] [],
    .for_ [1] false (.var 0) [.ite (.cmp .notin (.var 1) (.glob 0)) [.ret (.cst (.bl false))] []],
    .ret (.cst (.bl true))]
/-- _law_inner -/
def n__law_inner : List Str := ["_law_level_here", "_law_name", "_law_pair"]
def f__law_inner : FnI where
  nl := 3
  np := 2
  br := []
  body := [.for_ [2] false (.idx (.var 0) (.cst (.int 1))) [.ite (.cmp .eq (.idx (.var 2) (.cst (.int 0))) (.var 1)) [.ret (.idx (.var 2) (.cst (.int 1)))] []],
    .ret (.cst .non)]
/-- level_depth -/
def n_level_depth : List Str := ["level", "deepest", "pair"]
def f_level_depth : FnI where
  nl := 3
  np := 1
  br := []
  body := [.asg 1 (.cst (.int 0)),
    .for_ [2] false (.idx (.var 0) (.cst (.int 1))) [.asg 1 (.prim2 .max2 (.var 1) (.call 27 [.idx (.var 2) (.cst (.int 1))]))],
    .ret (.bin .add (.var 1) (.cst (.int 1)))]
/-- law -/
def n_law : List Str := ["_law_script", "_law_state", "_law_names_here", "_law_spare", "_law_level_here", "_law_fresh", "_law_flat", "_law_given_here", "_law_kept", "_law_kind", "_law_twin", "_law_other", "_law_plain", "_law_three", "_law_nested", "_law_each", "_law_here"]
def f_law : FnI where
  nl := 17
  np := 1
  br := []
  body := [.asg 1 (.call 15 [.var 0]),
    .asg 2 (.call 11 [.ref 1, .cst (.int 14)]),
    .asg 3 (.slc (.var 2) none (some (.cst (.int 9)))),
    .asg 4 (.call 10 [.ref 1, .ref 3, .cst (.int 1)]),
    .asg 4 (.callL 7 [.ref 1, .var 4, .newa (.bin .add (.var 3) (.slc (.var 2) (some (.cst (.int 9))) (some (.cst (.int 12)))))]),
    .asg 5 (.call 13 [.var 4, .call 12 [.ref 1, .call 4 [.var 4]], .idx (.var 2) (.cst (.int 12))]),
    .asg 6 (.lst [.prim .sorted (.call 4 [.var 4]), .lst []]),
    .epoch 1,
    .asg 7 (.call 6 [.ref 1, .var 4]),
    .asg 8 (.call 5 [.var 7]),
    .asg 9 (.mk 0 [.var 7]),
    .ite (.or (.not (.call 14 [.var 7, .var 8])) (.not (.call 8 [.var 9, .var 4]))) [.ret (.cst (.bl false))] [],
    .empt 7 1,
    .asg 10 (.mk 0 [.call 6 [.ref 1, .var 4]]),
    .asg 11 (.mk 0 [.call 6 [.ref 1, .var 5]]),
    .asg 12 (.mk 0 [.rev (.idx (.var 6) (.cst (.int 0)))]),
    .for_ [15, 16] true (.lst [.tup [.var 9, .var 4], .tup [.var 11, .var 5], .tup [.var 12, .var 6], .tup [.var 10, .var 4], .tup [.var 9, .var 4]]) [.ite (.not (.call 8 [.var 15, .var 16])) [.ret (.cst (.bl false))] [], .ite (.not (.call 14 [.cmp .eq (.var 15) (.var 9), .cmp .eq (.call 9 [.var 16]) (.call 9 [.var 4])])) [.ret (.cst (.bl false))] [], .ite (.not (.call 14 [.cmp .eq (.var 12) (.var 15), .cmp .eq (.call 9 [.var 16]) (.call 9 [.var 6])])) [.ret (.cst (.bl false))] []],
    .asg 13 (.prim .sorted (.slc (.var 2) none (some (.cst (.int 3))))),
    .asg 14 (.mk 0 [.lst [.idx (.var 13) (.cst (.int 0)), .tup [.idx (.var 13) (.cst (.int 1)), .lst [.idx (.var 13) (.cst (.int 2))]]]]),
    .ite (.or (.not (.call 14 [.cmp .eq (.var 14) (.mk 0 [.var 13]), .cst (.bl false)])) (.not (.call 14 [.cmp .eq (.mk 0 [.var 13]) (.mk 0 [.prim .tuple (.var 13)]), .cst (.bl true)]))) [.ret (.cst (.bl false))] [],
    .ret (.call 14 [.lst [.ccon 0 0, .ccon 0 1, .ccon 0 2], .lst [.cst (.int 4), .cst (.int 12), .cst (.int 8)]])]
def fnl : List (Nat × FnI) := [(0, f_KindD_initD), (1, f_KindD_eqD), (2, f_KindD_lenD), (3, f_KindD_iterD), (4, f__law_all), (5, f__law_copied), (6, f__law_given), (7, f__law_grown), (8, f__law_kind_is), (9, f__law_kind_text), (10, f__law_level), (11, f__law_names), (12, f__law_pick), (13, f__law_renamed), (14, f__law_same), (15, f__law_start), (16, f_checked_level), (17, f_level_names), (18, f_level_text), (19, f__law_draw), (20, f__law_at), (21, f__law_homes), (22, f__law_with), (23, f_Kind_levels), (24, f__law_depth), (25, f_valid_name), (26, f__law_inner), (27, f_level_depth)]
def fns (i : Nat) : Option FnI := fnl.lookup i
def infoL : InfoL where
  glob := [(0, (.str "abcdefghijklmnopqrstuvwxyz")), (1, (.int 8)), (2, (.int 4)), (3, (.int 12))]
  ccon := [((0, 0), (.int 4)), ((0, 1), (.int 12)), ((0, 2), (.int 8))]
  meth := [((0, 0), 23)]
  init := [(0, 0)]
  eqm := [(0, 1)]
  lenm := [(0, 2)]
  iterm := [(0, 3)]
def info : Info := infoL.info
end MV
set_option maxHeartbeats 1000000
namespace MV
open PySem
local macro_rules | `(tactic| walk_at "ev") => `(tactic| try simp only [brK_open, ↓brU_true, ↓brU_false, wp_ret, wp_bnd, wp_bad, wp_some, wp_none, wp_var, slotK_d, slotK_own, wp_rd_d, wp_rd_new, getK_some, wp_rd_at, wp_frz_d, wp_frz_new, frzK_d, frzK_own, wp_frz_at, wp_sto_d, wp_sto_new, wp_sto_at, wp_setSl, ownK_lst, wp_ownLst, wp_tr, wp_noX,
  wv_cst, wv_glob, wv_ccon, wv_tup, wv_lst, wv_bin, wv_cmp, wv_isNone, wv_notNone, wv_not, wv_and, wv_or, wv_ite, wv_idx, wv_slc, wv_rev, wv_prim, wv_prim2, wv_joinc, wv_isin, wv_call, wv_callL, wv_pop, popK_lst, wv_attr, wv_prop, wv_comp, wv_mk, wv_rng0, wv_chain,
  we_nil, we_cons, wa_nil, wo_none, wo_some, ws_nil, ws_cons, seqK_next, seqK_ret, seqK_brk, seqK_cont, wst_expr, wst_asg, wst_asgT, wst_append, wst_insert, wst_setIx, wst_ret, wst_ite, wst_for, wst_brk, wst_cont, wst_pass, wst_bad,
  get_mk, set_mk, List.getElem?_cons_zero, List.getElem?_cons_succ, Option.join_some, Option.join_none, List.set_cons_zero, List.set_cons_succ,
  Option.bind_some, List.length_cons, List.length_nil, ix_0, ix_1, ix_2, ix_3, ix_4, ix_5, ix_6, ix_7, ix_8, ix_9, ix_10, ix_11, ix_12, ix_13, ix_m1, item_own, item_lst, item_tup, add_int, sub_int, cmp_le, cmp_lt, cmp_gt, cmp_ge, cmp_eqi, cmp_nei, wp_cmp_int, truth_bl, truth_int, out_d, out_new, out_at, outK_own, allOwn_nil, allOwn_cons, isO_own, true_and, and_true, List.contains_cons, List.contains_nil, Bool.or_false, Bool.false_or, Bool.or_self, Bool.true_or, Bool.or_true, wp_primlen_lst, wp_primlen_tup, intOf_int, ty_non_int, ty_non_bool, ty_non_str, ty_non_tuple, ty_non_list, tyOk_non, isNon_non, ty_bl_int, ty_bl_bool, ty_bl_str, ty_bl_tuple, ty_bl_list, tyOk_bl, isNon_bl, ty_int_int, ty_int_bool, ty_int_str, ty_int_tuple, ty_int_list, tyOk_int, isNon_int, ty_str_int, ty_str_bool, ty_str_str, ty_str_tuple, ty_str_list, tyOk_str, isNon_str, ty_tup_int, ty_tup_bool, ty_tup_str, ty_tup_tuple, ty_tup_list, tyOk_tup, isNon_tup, ty_lst_int, ty_lst_bool, ty_lst_str, ty_lst_tuple, ty_lst_list, tyOk_lst, isNon_lst, ty_obj_int, ty_obj_bool, ty_obj_str, ty_obj_tuple, ty_obj_list, tyOk_obj, isNon_obj, ty_own_list, ty_own_tuple, any1, any2, eq_self, decide_true, decide_false, endK_ret, objK_obj, wst_setFld, put_nil, put_ne, objOf_obj, objOf_own, fld_eq, fld_ne, ne_eq, Nat.reduceEqDiff, Nat.reduceBEq, Nat.zero_ne_one, Nat.one_ne_zero, not_false_eq_true, wp_cmp_obj, wp_len_obj, ansB_bl, tupK_tup, wp_items_obj,  Int.toNat_natCast, slW_d, slW_own, setFin_r, setFin_c, setFin_n, wp_items_lst, wp_items_tup, wp_items_str, bind_one, bind_two, toD_lst, wp_primlen_own, wp_primlen_at', lenK_lst, wp_primlen_str, pr_list, pr_tuple, pr_sorted, pr_max, pr_int, list_lst, list_tup, list_own, list_scr, tuple_lst, tuple_own, tuple_tup, int_int, wp_cmp_str, wp_cmp_bl, cmp_eqb, wa_ref', refK_own, wa_var, wa_cst, wa_lst, wa_tup, wa_idx, wa_bin, wa_call, wa_prim, wa_slc, wa_attr, wa_ite, wa_cmp, wa_comp, wa_rev, wa_isNone, wa_glob, wa_ccon, wa_prop, wl_ref', wl_newa, newK_new, wl_var, List.map_nil, List.map_cons, List.append_nil, decide_eq_true_eq, Bool.false_eq_true, ↓reduceIte, Bool.not_eq_true, Bool.not_true, Bool.not_false])
/-- the law's state -/
def IsSt (st : List D) : Prop := ∃ (u : Nat) (ns : List Int) (pos num cnt : Int) (fl : Bool), st = [.lst u (ns.map .int), .int pos, .int num, .int cnt, .bl fl] ∧ 0 ≤ pos ∧ u = 0
theorem draw_w (P : Phi) (t : Nat) (st : List D) (lim : Int) (hs : IsSt st) (hl : 0 < lim ∧ lim < 1000000000000000000) : Wp (execs info P [0] 0 f__law_draw.body) ⟨t, [some (.own (.lst st)), some (.d (.int lim)), none, none]⟩ fun f e => ∃ r st' b c, f = .ret (.d (.int r)) ∧ e = ⟨t, [some (.own (.lst st')), some (.d (.int lim)), b, c]⟩ ∧ 0 ≤ r ∧ r < lim ∧ IsSt st' := by
  obtain ⟨u, ns, pos, num, cnt, fl, rfl, hp, hu⟩ := hs
  unfold f__law_draw
  dsimp only
  have fin : ∀ (a num cnt : Int) (fl : Bool) (r : Int) (h : 0 ≤ a) b c, 0 ≤ r → r < lim → ∃ r' st' b' c', Fl.ret (.d (.int r)) = .ret (.d (.int r')) ∧ (⟨t, [some (.own (.lst [.lst u (ns.map .int), .int a, .int num, .int cnt, .bl fl])), some (.d (.int lim)), b, c]⟩ : Env) = ⟨t, [some (.own (.lst st')), some (.d (.int lim)), b', c']⟩ ∧ 0 ≤ r' ∧ r' < lim ∧ IsSt st' := fun a num cnt fl r h b c h1 h2 => ⟨r, _, b, c, rfl, rfl, h1, h2, u, ns, a, num, cnt, fl, rfl, h, hu⟩
  have md : ∀ x : Int, 0 ≤ x % lim ∧ x % lim < lim := fun x => ⟨Int.emod_nonneg _ (by omega), Int.emod_lt_of_pos _ hl.1⟩
  walk_at "ev"
  have hq : 0 ≤ pos + 1 := by omega
  refine ⟨fun h => ?_, fun h => ?_⟩
  · refine ⟨fun h1 => ?_, fun h1 => ?_⟩
    · exact fin _ _ _ _ _ hp _ _ (Int.le_refl _) hl.1
    · have hlen : pos.toNat < ns.length := by simp at h1; omega
      have e1 : ((ix (List.map D.int ns).length pos).bind fun j => (List.map D.int ns)[j]?) = some (.int ns[pos.toNat]) := by
        unfold ix
        rw [if_pos hp, if_pos (by simp at h1 ⊢; omega), Option.bind_some, List.getElem?_map, List.getElem?_eq_getElem hlen]; rfl
      rw [e1]
      generalize ns[pos.toNat] = cell
      walk_at "ev"
      have pw : binop .pow (.d (.int 10)) (.d (.int 18)) = some (.d (.int 1000000000000000000)) := by
        unfold binop; dsimp only; rw [if_pos (by decide)]; rfl
      refine ⟨fun h2 => ⟨fun h3 => ?_, fun h3 => ?_⟩, fun h2 => ?_⟩
      · walk_at "ev"
        rw [mod_int hl.1]
        walk_at "ev"
        exact fin _ _ _ _ _ hq _ _ (md _).1 (md _).2
      all_goals rw [pw]
      all_goals walk_at "ev"
      all_goals refine ⟨fun h4 => ?_, fun h4 => ?_⟩
      all_goals walk_at "ev"
      all_goals refine ⟨fun h5 => ?_, fun h5 => ?_⟩
      all_goals first | rw [fdiv_int (by omega)] | rw [mul_int (.inr (by omega))]
      all_goals walk_at "ev"
      all_goals first | (rw [mod_int (by omega)]; walk_at "ev"; rw [mul_int (.inr (by omega))]; walk_at "ev"; rw [mod_int (by omega)]; walk_at "ev"; rw [fdiv_int (by omega)]; walk_at "ev"; rw [mod_int hl.1]; walk_at "ev"; exact fin _ _ _ _ _ hq _ _ (md _).1 (md _).2) | (refine ⟨fun h6 => ?_, fun h6 => ?_⟩ <;> (walk_at "ev"; rw [mod_int hl.1]; walk_at "ev"; exact fin _ _ _ _ _ hq _ _ (md _).1 (md _).2))
  · refine ⟨fun h5 => ?_, fun h5 => ?_⟩
    · rw [fdiv_int (by omega)]
      walk_at "ev"
      refine ⟨fun h6 => ?_, fun h6 => ?_⟩ <;> (walk_at "ev"; rw [mod_int hl.1]; walk_at "ev"; exact fin _ _ _ _ _ hp _ _ (md _).1 (md _).2)
    · rw [mul_int (.inr (by omega))]
      walk_at "ev"
      rw [mod_int (by omega)]; walk_at "ev"; rw [mul_int (.inr (by omega))]; walk_at "ev"; rw [mod_int (by omega)]; walk_at "ev"; rw [fdiv_int (by omega)]; walk_at "ev"; rw [mod_int hl.1]; walk_at "ev"; exact fin _ _ _ _ _ hp _ _ (md _).1 (md _).2

abbrev C (n t f : Nat) (args : List Sl) (K : Sl → List (Option Sl) → Prop) : Prop := Cs info fns 0 n t f args K
theorem draw_c {n t : Nat} {st : List D} {lim : Int} (hs : IsSt st) (hl : 0 < lim ∧ lim < 1000000000000000000) : C (n + 1) t 19 [.own (.lst st), .d (.int lim)] fun w fin => ∃ r st', w = .d (.int r) ∧ fin = [some (.own (.lst st')), none] ∧ 0 ≤ r ∧ r < lim ∧ IsSt st' := by
  refine cs_of (d := f__law_draw) rfl rfl rfl ((draw_w _ t st lim hs hl).mono ?_)
  rintro f e ⟨r, st', b, c, rfl, rfl, h1, h2, h3⟩
  exact ⟨r, st', rfl, rfl, h1, h2, h3⟩
/-- a draw -/
theorem wp_draw {n i : Nat} {e : Env} {st : List D} {lim : Int} {Q : W → Env → Prop} (he : e.get i = some (.own (.lst st))) (hs : IsSt st) (hl : 0 < lim ∧ lim < 1000000000000000000) (k : ∀ r st', 0 ≤ r → r < lim → IsSt st' → Q (.d (.int r)) (e.set i (some (.own (.lst st'))))) : Wp (callM (callF info fns 0 (n + 1)) 19 [.r i, .d (.int lim)]) e Q := by
  refine wp_call (draw_c hs hl) (by unfold argSl; rw [he]; rfl) (by simp [refsOf]) ?_
  rintro w fin ⟨r, st', rfl, rfl, h1, h2, h3⟩
  exact k r st' h1 h2 h3
theorem wp_drawN {n i : Nat} {e : Env} {st : List D} {lim : Int} {Q : W → Env → Prop} (he : e.get i = some (.own (.lst st))) (hs : IsSt st) (hl : 0 < lim ∧ lim < 1000000000000000000) (k : ∀ (r : Nat) st', (r : Int) < lim → IsSt st' → Q (.d (.int (r : Int))) (e.set i (some (.own (.lst st'))))) : Wp (callM (callF info fns 0 (n + 1)) 19 [.r i, .d (.int lim)]) e Q := by
  refine wp_draw he hs hl fun r st' h0 h1 h2 => ?_
  obtain ⟨m, e⟩ := Int.eq_ofNat_of_zero_le h0
  have := k m st' (e ▸ h1) h2
  rw [e]; exact this
theorem pick_c {n t u : Nat} {st xs : List D} (hs : IsSt st) (hl : 0 < xs.length ∧ xs.length < 1000000000000000000) : C (n + 2) t 12 [.own (.lst st), .d (.lst u xs)] fun w fin => ∃ x st', w = .d x ∧ fin = [some (.own (.lst st')), none] ∧ x ∈ xs ∧ IsSt st' := by
  refine cs_of (d := f__law_pick) rfl rfl rfl ?_
  show Wp (execs _ _ _ _ f__law_pick.body) ⟨t, [some (.own (.lst st)), some (.d (.lst u xs))]⟩ _
  unfold f__law_pick
  dsimp only
  walk_at "ev"
  refine wp_draw rfl hs (by omega) fun r st' h1 h2 h3 => ?_
  walk_at "ev"
  have hr : r.toNat < xs.length := by omega
  rw [ix_in h1 h2]
  walk_at "ev"
  rw [List.getElem?_eq_getElem hr]
  walk_at "ev"
  exact ⟨_, st', rfl, rfl, List.getElem_mem hr, h3⟩
theorem wp_pick {n i u : Nat} {e : Env} {st xs : List D} {Q : W → Env → Prop} (he : e.get i = some (.own (.lst st))) (hs : IsSt st) (hl : 0 < xs.length ∧ xs.length < 1000000000000000000) (k : ∀ x st', x ∈ xs → IsSt st' → Q (.d x) (e.set i (some (.own (.lst st'))))) : Wp (callM (callF info fns 0 (n + 2)) 12 [.r i, .d (.lst u xs)]) e Q := by
  refine wp_call (pick_c hs hl) (by unfold argSl; rw [he]; rfl) (by simp [refsOf]) ?_
  rintro w fin ⟨r, st', rfl, rfl, h1, h2⟩
  exact k r st' h1 h2
theorem start_c {n : Nat} {ns : List Int} : C (n + 1) 0 15 [.d (.scr ns)] fun w fin => ∃ st, w = .own (.lst st) ∧ IsSt st := by
  refine cs_of (d := f__law_start) rfl rfl rfl ?_
  show Wp (execs _ _ _ _ f__law_start.body) ⟨0, [some (.d (.scr ns))]⟩ _
  unfold f__law_start
  dsimp only
  walk_at "ev"
  exact ⟨_, rfl, 0, ns, 0, 0, 0, false, rfl, Int.le_refl _, rfl⟩

theorem wp_pickN {n i u : Nat} {e : Env} {st : List D} {ks : List Nat} {Q : W → Env → Prop} (he : e.get i = some (.own (.lst st))) (hs : IsSt st) (hl : 0 < ks.length ∧ ks.length < 1000) (k : ∀ (x : Nat) st', x ∈ ks → IsSt st' → Q (.d (.int (x : Int))) (e.set i (some (.own (.lst st'))))) : Wp (callM (callF info fns 0 (n + 2)) 12 [.r i, .d (.lst u (ks.map fun (k : Nat) => D.int (k : Int)))]) e Q := by
  refine wp_pick he hs (by rw [List.length_map]; omega) fun x st' hx h => ?_
  obtain ⟨y, hy, rfl⟩ := List.mem_map.mp hx
  exact k y st' hy h
/-! ### names -/
abbrev alpha : Str := "abcdefghijklmnopqrstuvwxyz"
theorem alpha_cps : alpha.cps.toList = (List.range 26).map (97 + ·) := by decide +kernel
def ch (j : Nat) : Str := ⟨#[97 + j]⟩
theorem item_alpha {i : Int} (h0 : 0 ≤ i) (h1 : i < 26) : item (.d (.str alpha)) (.d (.int i)) = some (.str (ch i.toNat)) := by
  have : item (.d (.str alpha)) (.d (.int i)) = ((ix alpha.cps.toList.length i).bind fun j => alpha.cps.toList[j]?).map fun c => .str ⟨#[c]⟩ := rfl
  rw [this, alpha_cps, ix_in h0 (by simpa using h1), Option.bind_some, List.getElem?_map, List.getElem?_range (by omega)]
  rfl
/-- the own letters -/
def ownL (s p c : Nat) : List Nat := (List.range c).map fun k => (s + k * p) % 26
def restL (own : List Nat) : List Nat := (List.range 26).filter fun j => !own.contains j
theorem own_ok : ∀ s < 26, ∀ p ∈ [1, 3, 5, 7, 9, 11], (ownL s p 20).Nodup ∧ 0 < (restL (ownL s p 20)).length := by decide +kernel
end MV
/-! K01N: names, the plain facts. -/
namespace MV
open PySem
def Nm (x : Str) : Prop := (1 ≤ x.length ∧ x.length ≤ 8) ∧ ∀ c ∈ x.cps.toList, 97 ≤ c ∧ c < 123
theorem Nm.ok {x : Str} (h : Nm x) : sOk x := sOk_iff.mpr fun c hc => by have := h.2 c hc; omega
theorem repS_ch (f n : Nat) : (repS (ch f) n).cps.toList = List.replicate n (97 + f) := by
  unfold repS ch
  simp only
  induction n with
  | zero => rfl
  | succ n ih =>
    rw [List.replicate_succ, List.replicate_succ]
    simp at ih ⊢
theorem ch_inj {i j : Nat} (h : ch i = ch j) : i = j := by
  unfold ch at h
  simp at h
  exact h
def nmSize (mode k : Nat) : Nat := if mode % 2 = 1 then 1 + (mode / 2 + 3 * k) % 8 else 1
def nmPlace (mode k : Nat) : Nat := (mode / 4 + k) % nmSize mode k
def nmOf (f mode k o : Nat) : Str := repS (ch f) (nmPlace mode k) ++ ch o ++ repS (ch f) (nmSize mode k - 1 - nmPlace mode k)
theorem nmSize_le (mode k : Nat) : 1 ≤ nmSize mode k ∧ nmSize mode k ≤ 8 := by unfold nmSize; split <;> omega
theorem nmPlace_lt (mode k : Nat) : nmPlace mode k < nmSize mode k := Nat.mod_lt _ (by have := nmSize_le mode k; omega)
theorem app_cps (x y : Str) : (x ++ y).cps.toList = x.cps.toList ++ y.cps.toList := by
  have e : (x ++ y).cps = x.cps ++ y.cps := rfl
  rw [e, Array.toList_append]
theorem nmOf_cps (f mode k o : Nat) : (nmOf f mode k o).cps.toList = List.replicate (nmPlace mode k) (97 + f) ++ [97 + o] ++ List.replicate (nmSize mode k - 1 - nmPlace mode k) (97 + f) := by
  unfold nmOf
  rw [app_cps, app_cps, repS_ch, repS_ch]
  rfl
theorem len_cps (x : Str) : x.length = x.cps.toList.length := by unfold Str.length; simp
theorem nmOf_nm {f mode k o : Nat} (hf : f < 26) (ho : o < 26) : Nm (nmOf f mode k o) := by
  have h1 := nmSize_le mode k
  have h2 := nmPlace_lt mode k
  refine ⟨?_, fun c hc => ?_⟩
  · rw [len_cps, nmOf_cps]
    simp
    omega
  · rw [nmOf_cps] at hc
    simp at hc
    omega
theorem nmOf_inj {f mode k o k' o' : Nat} (h1 : o ≠ f) (h : nmOf f mode k o = nmOf f mode k' o') : o = o' := by
  have h2 : 97 + o ∈ (nmOf f mode k o).cps.toList := by rw [nmOf_cps]; simp
  rw [h, nmOf_cps] at h2
  simp at h2
  omega
/-- the names -/
def nmsOf (s p cnt f mode : Nat) : List Str := (List.range cnt).map fun k => nmOf f mode k ((s + k * p) % 26)
theorem nmsOf_ok {s p cnt f mode : Nat} (hs : s < 26) (hp : p ∈ [1, 3, 5, 7, 9, 11]) (hc : cnt ≤ 20) (hf : f < 26) (hn : f ∉ ownL s p cnt) : (nmsOf s p cnt f mode).Nodup ∧ ∀ x ∈ nmsOf s p cnt f mode, Nm x := by
  have own := (own_ok s hs p hp).1
  unfold ownL at own
  unfold List.Nodup at own
  rw [List.pairwise_map] at own
  have inj : ∀ i j, i < j → j < cnt → (s + i * p) % 26 ≠ (s + j * p) % 26 := fun i j hij hj => by
    rw [List.pairwise_iff_getElem] at own
    have := own i j (by simp; omega) (by simp; omega) hij
    simpa using this
  refine ⟨?_, fun x hx => ?_⟩
  · unfold nmsOf List.Nodup
    rw [List.pairwise_map, List.pairwise_iff_getElem]
    intro i j hi hj hij h
    simp at hi hj h
    refine inj i j hij (by simpa using hj) (nmOf_inj (fun z => hn ?_) h)
    unfold ownL
    exact List.mem_map.mpr ⟨i, List.mem_range.mpr (by simpa using hi), z⟩
  · obtain ⟨k, hk, rfl⟩ := List.mem_map.mp hx
    exact nmOf_nm hf (Nat.mod_lt _ (by omega))
end MV
/-! K01L: levels, plainly. -/
namespace MV
open PySem
/-- levels of at most n levels -/
def Lv : Nat → Type
  | 0 => Empty
  | n + 1 => List Str × List (Str × Lv n)
def Lv.pl {n : Nat} (l : Lv (n + 1)) : List Str := Prod.fst l
def Lv.inn {n : Nat} (l : Lv (n + 1)) : List (Str × Lv n) := Prod.snd l
def encM (v t : Nat) : ∀ n, Lv n → D
  | 0, l => Empty.elim l
  | n + 1, l => .lst v [.lst t (l.pl.map .str), .lst t (l.inn.map fun p => .lst t [.str p.1, encM t t n p.2])]
abbrev encL (t n : Nat) (l : Lv n) : D := encM t t n l
def encT : ∀ n, Lv n → D
  | 0, l => Empty.elim l
  | n + 1, l => .tup [.tup (l.pl.map .str), .tup (l.inn.map fun p => .tup [.str p.1, encT n p.2])]
def txt : ∀ n, Lv n → Str
  | 0, l => Empty.elim l
  | n + 1, l => Txt.join " " (l.pl ++ l.inn.map fun p => p.1 ++ "(" ++ txt n p.2 ++ ")")
def nms : ∀ n, Lv n → List Str
  | 0, l => Empty.elim l
  | n + 1, l => l.pl ++ (l.inn.map fun p => p.1 :: nms n p.2).flatten
def dep : ∀ n, Lv n → Nat
  | 0, l => Empty.elim l
  | n + 1, l => (l.inn.map fun p => dep n p.2).foldl max 0 + 1
/-- small -/
def Sm (n : Nat) (l : Lv n) : Prop := (nms n l).length ≤ 100 ∧ ∀ x ∈ nms n l, Nm x
theorem Sm.inn {n : Nat} {l : Lv (n + 1)} (h : Sm (n + 1) l) {p : Str × Lv n} (hp : p ∈ l.inn) : Sm n p.2 ∧ Nm p.1 ∧ (nms n p.2).length + 1 ≤ (nms (n + 1) l).length := by
  have hm : ∀ x ∈ p.1 :: nms n p.2, x ∈ nms (n + 1) l := fun x hx => by
    rw [nms]
    exact List.mem_append_right _ (List.mem_flatten.mpr ⟨_, List.mem_map.mpr ⟨p, hp, rfl⟩, hx⟩)
  have hl : (nms n p.2).length + 1 ≤ (nms (n + 1) l).length := by
    rw [nms, List.length_append]
    obtain ⟨a, b, e⟩ := List.append_of_mem hp
    rw [e, List.map_append, List.map_cons, List.flatten_append, List.flatten_cons, List.length_append, List.length_append, List.length_cons]
    omega
  exact ⟨⟨by have := h.1; omega, fun x hx => h.2 x (hm x (List.mem_cons_of_mem _ hx))⟩, h.2 _ (hm _ List.mem_cons_self), hl⟩
theorem Sm.pl {n : Nat} {l : Lv (n + 1)} (h : Sm (n + 1) l) {x : Str} (hx : x ∈ l.pl) : Nm x := h.2 x (by rw [nms]; exact List.mem_append_left _ hx)
theorem Sm.len {n : Nat} {l : Lv (n + 1)} (h : Sm (n + 1) l) : l.pl.length + l.inn.length ≤ (nms (n + 1) l).length := by
  rw [nms, List.length_append]
  have : ∀ q : List (Str × Lv n), q.length ≤ (q.map fun p => p.1 :: nms n p.2).flatten.length := fun q => by
    induction q with
    | nil => simp
    | cons p q ih => rw [List.map_cons, List.flatten_cons, List.length_append, List.length_cons, List.length_cons]; omega
  have := this l.inn
  omega
/-- the parts of a level's text -/
def prt (n : Nat) (p : Str × Lv n) : Str := p.1 ++ "(" ++ txt n p.2 ++ ")"
theorem prt_len {n : Nat} {p : Str × Lv n} : (prt n p).length = p.1.length + (txt n p.2).length + 2 := by
  unfold prt
  rw [str_app_len, str_app_len, str_app_len]
  show p.1.length + 1 + (txt n p.2).length + 1 = _
  omega
theorem txt_len : ∀ n (l : Lv n), Sm n l → (txt n l).length ≤ 11 * (nms n l).length ∧ (∀ m, n = m + 1 → True)
  | 0, l, _ => Empty.elim l
  | n + 1, l, h => by
    refine ⟨?_, fun _ _ => trivial⟩
    have h1 := join_len " " (l.pl ++ l.inn.map fun p => prt n p)
    have e1 : txt (n + 1) l = Txt.join " " (l.pl ++ l.inn.map fun p => prt n p) := rfl
    rw [e1]
    refine Nat.le_trans h1 ?_
    rw [List.map_append, List.sum_append, List.length_append, List.length_map, nms, List.length_append]
    have hp : ∀ q : List Str, (∀ x ∈ q, Nm x) → (q.map (·.length)).sum ≤ 8 * q.length := fun q hq => by
      induction q with
      | nil => simp
      | cons x q ih =>
        have := (hq x List.mem_cons_self).1.2
        have := ih fun y hy => hq y (List.mem_cons_of_mem _ hy)
        rw [List.map_cons, List.sum_cons, List.length_cons]; omega
    have hi : ∀ q : List (Str × Lv n), (∀ p ∈ q, Sm n p.2 ∧ Nm p.1) → ((q.map fun p => prt n p).map (·.length)).sum + q.length ≤ 11 * (q.map fun p => p.1 :: nms n p.2).flatten.length := fun q hq => by
      induction q with
      | nil => simp
      | cons x q ih =>
        obtain ⟨a1, a2⟩ := hq x List.mem_cons_self
        have t1 := (txt_len n x.2 a1).1
        have := a2.1.2
        have := ih fun y hy => hq y (List.mem_cons_of_mem _ hy)
        rw [List.map_cons, List.map_cons, List.sum_cons, prt_len, List.length_cons, List.map_cons, List.flatten_cons, List.length_append, List.length_cons]
        omega
    have a := hp l.pl fun x hx => h.pl hx
    have b := hi l.inn fun p hp => ⟨(h.inn hp).1, (h.inn hp).2.1⟩
    have c : (" " : Str).length = 1 := rfl
    rw [c]
    omega
theorem prt_small {n : Nat} {l : Lv (n + 1)} (h : Sm (n + 1) l) {p : Str × Lv n} (hp : p ∈ l.inn) : p.1.length ≤ 8 ∧ (txt n p.2).length ≤ 1100 := by
  obtain ⟨a, b, c⟩ := h.inn hp
  have := (txt_len n p.2 a).1
  have := a.1
  exact ⟨b.1.2, by omega⟩
theorem prts_sum {n : Nat} {l : Lv (n + 1)} (h : Sm (n + 1) l) : ((l.pl ++ l.inn.map fun p => prt n p).map (·.length)).sum + (l.pl ++ l.inn.map fun p => prt n p).length * (" " : Str).length ≤ 16777216 := by
  have hl := h.len
  have h1 := h.1
  have : ∀ q : List Str, (∀ x ∈ q, x.length ≤ 2000) → (q.map (·.length)).sum ≤ 2000 * q.length := fun q hq => by
    induction q with
    | nil => simp
    | cons x q ih =>
      have := hq x List.mem_cons_self
      have := ih fun y hy => hq y (List.mem_cons_of_mem _ hy)
      rw [List.map_cons, List.sum_cons, List.length_cons]; omega
  have := this (l.pl ++ l.inn.map fun p => prt n p) fun x hx => by
    rcases List.mem_append.mp hx with q | q
    · have := (h.pl q).1.2; omega
    · obtain ⟨p, hp, rfl⟩ := List.mem_map.mp q
      have := prt_small h hp
      rw [prt_len]; omega
  have c : (" " : Str).length = 1 := rfl
  rw [c]
  rw [List.length_append, List.length_map] at *
  omega
end MV
set_option maxHeartbeats 1000000
namespace MV
open PySem
local macro_rules | `(tactic| walk_at "ev") => `(tactic| try simp only [brK_open, ↓brU_true, ↓brU_false, wp_ret, wp_bnd, wp_bad, wp_some, wp_none, wp_var, slotK_d, slotK_own, wp_rd_d, wp_rd_new, getK_some, wp_rd_at, wp_frz_d, wp_frz_new, frzK_d, frzK_own, wp_frz_at, wp_sto_d, wp_sto_new, wp_sto_at, wp_setSl, ownK_lst, wp_ownLst, wp_tr, wp_noX,
  wv_cst, wv_glob, wv_ccon, wv_tup, wv_lst, wv_bin, wv_cmp, wv_isNone, wv_notNone, wv_not, wv_and, wv_or, wv_ite, wv_idx, wv_slc, wv_rev, wv_prim, wv_prim2, wv_joinc, wv_isin, wv_call, wv_callL, wv_pop, popK_lst, wv_attr, wv_prop, wv_comp, wv_mk, wv_rng0, wv_chain,
  we_nil, we_cons, wa_nil, wo_none, wo_some, ws_nil, ws_cons, seqK_next, seqK_ret, seqK_brk, seqK_cont, wst_expr, wst_asg, wst_asgT, wst_append, wst_insert, wst_setIx, wst_ret, wst_ite, wst_for, wst_brk, wst_cont, wst_pass, wst_bad,
  get_mk, set_mk, List.getElem?_cons_zero, List.getElem?_cons_succ, Option.join_some, Option.join_none, List.set_cons_zero, List.set_cons_succ,
  Option.bind_some, List.length_cons, List.length_nil, ix_0, ix_1, ix_2, ix_3, ix_4, ix_5, ix_6, ix_7, ix_8, ix_9, ix_10, ix_11, ix_12, ix_13, ix_m1, item_own, item_lst, item_tup, add_int, sub_int, cmp_le, cmp_lt, cmp_gt, cmp_ge, cmp_eqi, cmp_nei, wp_cmp_int, truth_bl, truth_int, out_d, out_new, out_at, outK_own, allOwn_nil, allOwn_cons, isO_own, true_and, and_true, List.contains_cons, List.contains_nil, Bool.or_false, Bool.false_or, Bool.or_self, Bool.true_or, Bool.or_true, wp_primlen_lst, wp_primlen_tup, intOf_int, ty_non_int, ty_non_bool, ty_non_str, ty_non_tuple, ty_non_list, tyOk_non, isNon_non, ty_bl_int, ty_bl_bool, ty_bl_str, ty_bl_tuple, ty_bl_list, tyOk_bl, isNon_bl, ty_int_int, ty_int_bool, ty_int_str, ty_int_tuple, ty_int_list, tyOk_int, isNon_int, ty_str_int, ty_str_bool, ty_str_str, ty_str_tuple, ty_str_list, tyOk_str, isNon_str, ty_tup_int, ty_tup_bool, ty_tup_str, ty_tup_tuple, ty_tup_list, tyOk_tup, isNon_tup, ty_lst_int, ty_lst_bool, ty_lst_str, ty_lst_tuple, ty_lst_list, tyOk_lst, isNon_lst, ty_obj_int, ty_obj_bool, ty_obj_str, ty_obj_tuple, ty_obj_list, tyOk_obj, isNon_obj, ty_own_list, ty_own_tuple, any1, any2, eq_self, decide_true, decide_false, endK_ret, objK_obj, wst_setFld, put_nil, put_ne, objOf_obj, objOf_own, fld_eq, fld_ne, ne_eq, Nat.reduceEqDiff, Nat.reduceBEq, Nat.zero_ne_one, Nat.one_ne_zero, not_false_eq_true, wp_cmp_obj, wp_len_obj, ansB_bl, tupK_tup, wp_items_obj,  Int.toNat_natCast, slW_d, slW_own, setFin_r, setFin_c, setFin_n, wp_items_lst, wp_items_tup, wp_items_str, bind_one, bind_two, toD_lst, wp_primlen_own, wp_primlen_at', lenK_lst, wp_primlen_str, pr_list, pr_tuple, pr_sorted, pr_max, pr_int, list_lst, list_tup, list_own, list_scr, tuple_lst, tuple_own, tuple_tup, int_int, wp_cmp_str, wp_cmp_bl, cmp_eqb, wa_ref', refK_own, wa_var, wa_cst, wa_lst, wa_tup, wa_idx, wa_bin, wa_call, wa_prim, wa_slc, wa_attr, wa_ite, wa_cmp, wa_comp, wa_rev, wa_isNone, wa_glob, wa_ccon, wa_prop, wl_ref', wl_newa, newK_new, wl_var, List.map_nil, List.map_cons, List.append_nil, decide_eq_true_eq, Bool.false_eq_true, ↓reduceIte, Bool.not_eq_true, Bool.not_true, Bool.not_false])
def ownD (s p : Nat) : D → D
  | .int k => .str (ch ((s + k.toNat * p) % 26))
  | _ => .non
theorem hideQ {α : Type} {m : M α} {e : Env} {Q : α → Env → Prop} (h : ∀ Q' : α → Env → Prop, (∀ a e, Q' a e = Q a e) → Wp m e Q') : Wp m e Q := h Q fun _ _ => rfl
theorem names_c {n t cnt : Nat} {st : List D} (hs : IsSt st) (hc : 1 ≤ cnt ∧ cnt ≤ 20) : C (n + 3) t 11 [.own (.lst st), .d (.int cnt)] fun w fin => ∃ (nms : List Str) (st' : List D), w = .own (.lst (nms.map .str)) ∧ fin = [some (.own (.lst st')), none] ∧ IsSt st' ∧ nms.length = cnt ∧ nms.Nodup ∧ ∀ x ∈ nms, Nm x := by
  refine cs_of (d := f__law_names) rfl rfl rfl ?_
  show Wp (execs _ _ _ _ f__law_names.body) ⟨t, [some (.own (.lst st)), some (.d (.int cnt)), none, none, none, none, none, none, none, none, none, none, none, none]⟩ _
  unfold f__law_names
  dsimp only
  walk_at "ev"
  refine wp_drawN rfl hs (by omega) fun s st1 s1 hs1 => ?_
  walk_at "ev"
  refine wp_pick rfl hs1 (by simp only [List.length_cons, List.length_nil]; omega) fun p st2 hp hs2 => ?_
  obtain ⟨pp, rfl, hpp⟩ : ∃ pp : Nat, p = .int pp ∧ pp ∈ [1, 3, 5, 7, 9, 11] := by
    simp only [List.mem_cons, List.mem_nil_iff, or_false] at hp
    rcases hp with rfl | rfl | rfl | rfl | rfl | rfl
    · exact ⟨1, rfl, by decide⟩
    · exact ⟨3, rfl, by decide⟩
    · exact ⟨5, rfl, by decide⟩
    · exact ⟨7, rfl, by decide⟩
    · exact ⟨9, rfl, by decide⟩
    · exact ⟨11, rfl, by decide⟩
  have hp2 : pp < 12 := by
    simp only [List.mem_cons, List.mem_nil_iff, or_false] at hpp; omega
  walk_at "ev"
  refine wp_drawN rfl hs2 (by omega) fun mode st3 m1 hs3 => ?_
  walk_at "ev"
  refine wp_comp_map (g := ownD s pp) ?_
  walk_at "ev"
  refine rngN (by omega) ?_
  walk_at "ev"
  refine ⟨by rw [rangeD_len]; omega, fun y hy => ?_, ?_⟩
  · obtain ⟨k, hk, rfl⟩ := rangeD_mem hy
    walk_at "ev"
    rw [mul_int (.inr (by omega))]
    walk_at "ev"
    rw [mod_int (by omega)]
    walk_at "ev"
    have e1 : ((s : Int) + (k : Int) * (pp : Int)) % 26 = (((s + k * pp) % 26 : Nat) : Int) := by
      rw [Int.natCast_emod, Int.natCast_add, Int.natCast_mul]; rfl
    rw [e1, item_alpha (by omega) (by omega)]
    walk_at "ev"
    rfl
  have eown : (rangeD cnt).map (ownD s pp) = ((ownL s pp cnt).map ch).map D.str := by
    unfold rangeD ownL
    rw [List.map_map, List.map_map, List.map_map]
    rfl
  rw [eown]
  refine wp_comp_filter (p := fun y => match y with | .str x => !((ownL s pp cnt).map ch).contains x | _ => false) (g := id) ?_
  walk_at "ev"
  refine ⟨by rw [List.length_map, alpha_cps]; simp, fun y hy => ?_, fun y hy => ?_, ?_⟩
  · obtain ⟨c, hc, rfl⟩ := List.mem_map.mp hy
    walk_at "ev"
    rw [notin_strs (ys := (ownL s pp cnt).map ch) rfl]
    walk_at "ev"
  · obtain ⟨c, hc, rfl⟩ := List.mem_map.mp hy
    walk_at "ev"
    rfl
  have erest : ((alpha.cps.toList.map fun c => D.str ⟨#[c]⟩).filter fun y => match y with | .str x => !((ownL s pp cnt).map ch).contains x | _ => false).map id = ((restL (ownL s pp cnt)).map ch).map D.str := by
    rw [alpha_cps, List.map_id, List.map_map, List.filter_map, restL, List.map_map]
    congr 1
    apply List.filter_congr
    intro j _
    show (!((ownL s pp cnt).map ch).contains (ch j)) = !(ownL s pp cnt).contains j
    congr 1
    rw [Bool.eq_iff_iff, List.contains_iff_mem, List.contains_iff_mem, List.mem_map]
    constructor
    · rintro ⟨a, h1, h2⟩; rw [← ch_inj h2]; exact h1
    · intro h; exact ⟨j, h, rfl⟩
  rw [erest]
  walk_at "ev"
  have hrest : 0 < (restL (ownL s pp cnt)).length := by
    have h0 := (own_ok s (by omega) pp hpp).2
    obtain ⟨z, hz⟩ := List.exists_mem_of_length_pos h0
    refine List.length_pos_of_mem (a := z) ?_
    unfold restL at hz ⊢
    rw [List.mem_filter] at hz ⊢
    refine ⟨hz.1, ?_⟩
    have h2 := hz.2
    simp only [Bool.not_eq_true', List.contains_eq_mem, decide_eq_false_iff_not] at h2 ⊢
    intro h3
    apply h2
    unfold ownL at h3 ⊢
    obtain ⟨k, hk, e⟩ := List.mem_map.mp h3
    rw [List.mem_range] at hk
    exact List.mem_map.mpr ⟨k, List.mem_range.mpr (by omega), e⟩
  rw [mod_int (by simp only [List.length_map]; omega)]
  walk_at "ev"
  obtain ⟨f, hf⟩ : ∃ f, (restL (ownL s pp cnt))[mode % (restL (ownL s pp cnt)).length]? = some f := ⟨_, List.getElem?_eq_getElem (Nat.mod_lt _ hrest)⟩
  have hix : ((ix (((restL (ownL s pp cnt)).map ch).map D.str).length (↑mode % ↑(((restL (ownL s pp cnt)).map ch).map D.str).length)).bind fun j => (((restL (ownL s pp cnt)).map ch).map D.str)[j]?) = some (.str (ch f)) := by
    rw [List.length_map, List.length_map, show ((mode : Int) % ((restL (ownL s pp cnt)).length : Int)) = ((mode % (restL (ownL s pp cnt)).length : Nat) : Int) from rfl, ix_in (by omega) (by have := Nat.mod_lt mode hrest; omega), Option.bind_some, Int.toNat_natCast, List.getElem?_map, List.getElem?_map, hf]
    rfl
  rw [hix]
  have hfr : f ∈ restL (ownL s pp cnt) := List.mem_of_getElem? hf
  have hf26 : f < 26 ∧ f ∉ ownL s pp cnt := by
    unfold restL at hfr
    rw [List.mem_filter, List.mem_range] at hfr
    exact ⟨hfr.1, by simpa using hfr.2⟩
  clear hix erest
  walk_at "ev"
  refine rngN (by omega) ?_
  refine wp_forL (fun rem e => ∃ (k : Nat) (x y z : Option Sl), k ≤ cnt ∧ rem = (rangeD cnt).drop k ∧ e = ⟨t, [some (.own (.lst st3)), some (.d (.int cnt)), some (.d (.str alpha)), some (.d (.int s)), some (.d (.int pp)), some (.d (.int mode)), some (.own (.lst (((ownL s pp cnt).map ch).map D.str))), some (.own (.lst (((restL (ownL s pp cnt)).map ch).map D.str))), some (.d (.str (ch f))), some (.own (.lst ((nmsOf s pp k f mode).map D.str))), x, y, z, none]⟩) ?_ ?_ _ _ ⟨0, none, none, none, Nat.zero_le _, rfl, rfl⟩
  · rintro e ⟨k, x, y, z, hk, hr, rfl⟩
    have : k = cnt := by
      have := congrArg List.length hr
      rw [List.length_drop, rangeD_len] at this
      simp at this; omega
    subst this
    walk_at "ev"
    exact ⟨nmsOf s pp k f mode, st3, rfl, rfl, hs3, by unfold nmsOf; simp, (nmsOf_ok (by omega) hpp hc.2 hf26.1 hf26.2).1, (nmsOf_ok (by omega) hpp hc.2 hf26.1 hf26.2).2⟩
  · rintro x0 xs e ⟨k, x, y, z, hk, hr, rfl⟩
    have hlt : k < cnt := by
      have := congrArg List.length hr
      rw [List.length_drop, rangeD_len] at this
      simp at this; omega
    rw [List.drop_eq_getElem_cons (by rw [rangeD_len]; exact hlt)] at hr
    injection hr with h1 h2
    have e1 : (rangeD cnt)[k]'(by rw [rangeD_len]; exact hlt) = .int k := by unfold rangeD; simp
    rw [e1] at h1
    subst h1 h2
    -- the rest
    have fin : ∀ z : Option Sl, Wp (execs info (callF info fns 0 (n + 2)) [0] 0 [.asg 12 (.bin .mod (.prim .int (.bin .add (.bin .fdiv (.var 5) (.cst (.int 4))) (.var 10))) (.var 11)), .append 9 (.bin .add (.bin .add (.bin .mul (.var 8) (.var 12)) (.idx (.var 6) (.var 10))) (.bin .mul (.var 8) (.bin .sub (.bin .sub (.var 11) (.cst (.int 1))) (.var 12))))])
        ⟨t, [some (.own (.lst st3)), some (.d (.int cnt)), some (.d (.str alpha)), some (.d (.int s)), some (.d (.int pp)), some (.d (.int mode)), some (.own (.lst (((ownL s pp cnt).map ch).map D.str))), some (.own (.lst (((restL (ownL s pp cnt)).map ch).map D.str))), some (.d (.str (ch f))), some (.own (.lst ((nmsOf s pp k f mode).map D.str))), some (.d (.int k)), some (.d (.int (nmSize mode k : Nat))), z, none]⟩
        fun fl e2 => fl = .next ∧ ∃ (z : Option Sl), e2 = ⟨t, [some (.own (.lst st3)), some (.d (.int cnt)), some (.d (.str alpha)), some (.d (.int s)), some (.d (.int pp)), some (.d (.int mode)), some (.own (.lst (((ownL s pp cnt).map ch).map D.str))), some (.own (.lst (((restL (ownL s pp cnt)).map ch).map D.str))), some (.d (.str (ch f))), some (.own (.lst ((nmsOf s pp (k + 1) f mode).map D.str))), some (.d (.int k)), some (.d (.int (nmSize mode k : Nat))), z, none]⟩ := by
      intro z
      have hsz := nmSize_le mode k
      have hpl := nmPlace_lt mode k
      walk_at "ev"
      rw [fdiv_int (by omega)]
      walk_at "ev"
      rw [mod_int (by omega)]
      have e2 : ((mode : Int) / 4 + (k : Int)) % (nmSize mode k : Nat) = (nmPlace mode k : Nat) := by
        unfold nmPlace
        rw [Int.natCast_emod, Int.natCast_add, Int.natCast_ediv]; rfl
      rw [e2]
      walk_at "ev"
      have lch : (ch f).length = 1 := rfl
      rw [mul_str (by rw [lch, Int.toNat_natCast]; omega)]
      walk_at "ev"
      have e3 : ((ix (((ownL s pp cnt).map ch).map D.str).length (k : Int)).bind fun j => (((ownL s pp cnt).map ch).map D.str)[j]?) = some (.str (ch ((s + k * pp) % 26))) := by
        have hl : (ownL s pp cnt).length = cnt := by unfold ownL; simp
        rw [List.length_map, List.length_map, hl, ix_in (by omega) (by omega), Option.bind_some, Int.toNat_natCast, List.getElem?_map, List.getElem?_map]
        unfold ownL
        rw [List.getElem?_map, List.getElem?_range hlt]
        rfl
      rw [e3]
      have l1 : (repS (ch f) (nmPlace mode k)).length = nmPlace mode k := by rw [len_cps, repS_ch]; simp
      have l2 : (ch ((s + k * pp) % 26)).length = 1 := rfl
      walk_at "ev"
      rw [add_str (by rw [l1, l2]; omega)]
      walk_at "ev"
      have e4 : ((nmSize mode k : Nat) : Int) - 1 - (nmPlace mode k : Nat) = ((nmSize mode k - 1 - nmPlace mode k : Nat) : Int) := by omega
      rw [e4, mul_str (by rw [lch, Int.toNat_natCast]; omega)]
      walk_at "ev"
      have l3 : (repS (ch f) (nmSize mode k - 1 - nmPlace mode k)).length = nmSize mode k - 1 - nmPlace mode k := by rw [len_cps, repS_ch]; simp
      rw [add_str (by rw [len_cps, app_cps, List.length_append, ← len_cps, ← len_cps, l1, l2, l3]; omega)]
      walk_at "ev"
      refine ⟨fun _ => ?_, fun h => absurd (by unfold nmsOf; simp; omega) h⟩
      refine ⟨some (.d (.int (nmPlace mode k : Nat))), ?_⟩
      have e5 : (nmsOf s pp (k + 1) f mode).map D.str = (nmsOf s pp k f mode).map D.str ++ [.str (nmOf f mode k ((s + k * pp) % 26))] := by
        unfold nmsOf
        rw [List.range_succ, List.map_append, List.map_append]
        rfl
      rw [e5]
      rfl
    rw [bind_one]
    simp only [set_mk, List.set_cons_succ, List.set_cons_zero]
    refine ws_cut 2 (fun e => e = ⟨t, [some (.own (.lst st3)), some (.d (.int cnt)), some (.d (.str alpha)), some (.d (.int s)), some (.d (.int pp)), some (.d (.int mode)), some (.own (.lst (((ownL s pp cnt).map ch).map D.str))), some (.own (.lst (((restL (ownL s pp cnt)).map ch).map D.str))), some (.d (.str (ch f))), some (.own (.lst ((nmsOf s pp k f mode).map D.str))), some (.d (.int k)), some (.d (.int (nmSize mode k : Nat))), z, none]⟩) ?_ ?_
    · dsimp only [List.take]
      walk_at "ev"
      rw [mod_int (by omega)]
      walk_at "ev"
      refine ⟨fun hm => ?_, fun hm => ?_⟩
      · rw [fdiv_int (by omega)]
        walk_at "ev"
        rw [mul_int (.inl (by omega))]
        walk_at "ev"
        rw [mod_int (by omega)]
        walk_at "ev"
        have e6 : (1 : Int) + ((mode : Int) / 2 + 3 * (k : Int)) % 8 = (nmSize mode k : Nat) := by
          unfold nmSize
          rw [if_pos (by omega)]
          omega
        rw [e6]
      · have e6 : (1 : Int) = (nmSize mode k : Nat) := by
          unfold nmSize
          rw [if_neg (by omega)]
          rfl
        rw [← e6]
    · rintro e1 rfl
      refine (fin z).mono ?_
      rintro fl e2 ⟨rfl, z, rfl⟩
      exact ⟨k + 1, _, _, z, hlt, rfl, rfl⟩
end MV
set_option maxHeartbeats 1000000
namespace MV
open PySem
local macro_rules | `(tactic| walk_at "ev") => `(tactic| try simp only [brK_open, ↓brU_true, ↓brU_false, wp_ret, wp_bnd, wp_bad, wp_some, wp_none, wp_var, slotK_d, slotK_own, wp_rd_d, wp_rd_new, getK_some, wp_rd_at, wp_frz_d, wp_frz_new, frzK_d, frzK_own, wp_frz_at, wp_sto_d, wp_sto_new, wp_sto_at, wp_setSl, ownK_lst, wp_ownLst, wp_tr, wp_noX,
  wv_cst, wv_glob, wv_ccon, wv_tup, wv_lst, wv_bin, wv_cmp, wv_isNone, wv_notNone, wv_not, wv_and, wv_or, wv_ite, wv_idx, wv_slc, wv_rev, wv_prim, wv_prim2, wv_joinc, wv_isin, wv_call, wv_callL, wv_pop, popK_lst, wv_attr, wv_prop, wv_comp, wv_mk, wv_rng0, wv_chain,
  we_nil, we_cons, wa_nil, wo_none, wo_some, ws_nil, ws_cons, seqK_next, seqK_ret, seqK_brk, seqK_cont, wst_expr, wst_asg, wst_asgT, wst_append, wst_insert, wst_setIx, wst_ret, wst_ite, wst_for, wst_brk, wst_cont, wst_pass, wst_bad,
  get_mk, set_mk, List.getElem?_cons_zero, List.getElem?_cons_succ, Option.join_some, Option.join_none, List.set_cons_zero, List.set_cons_succ,
  Option.bind_some, List.length_cons, List.length_nil, ix_0, ix_1, ix_2, ix_3, ix_4, ix_5, ix_6, ix_7, ix_8, ix_9, ix_10, ix_11, ix_12, ix_13, ix_m1, item_own, item_lst, item_tup, add_int, sub_int, cmp_le, cmp_lt, cmp_gt, cmp_ge, cmp_eqi, cmp_nei, wp_cmp_int, truth_bl, truth_int, out_d, out_new, out_at, outK_own, allOwn_nil, allOwn_cons, isO_own, true_and, and_true, List.contains_cons, List.contains_nil, Bool.or_false, Bool.false_or, Bool.or_self, Bool.true_or, Bool.or_true, wp_primlen_lst, wp_primlen_tup, intOf_int, ty_non_int, ty_non_bool, ty_non_str, ty_non_tuple, ty_non_list, tyOk_non, isNon_non, ty_bl_int, ty_bl_bool, ty_bl_str, ty_bl_tuple, ty_bl_list, tyOk_bl, isNon_bl, ty_int_int, ty_int_bool, ty_int_str, ty_int_tuple, ty_int_list, tyOk_int, isNon_int, ty_str_int, ty_str_bool, ty_str_str, ty_str_tuple, ty_str_list, tyOk_str, isNon_str, ty_tup_int, ty_tup_bool, ty_tup_str, ty_tup_tuple, ty_tup_list, tyOk_tup, isNon_tup, ty_lst_int, ty_lst_bool, ty_lst_str, ty_lst_tuple, ty_lst_list, tyOk_lst, isNon_lst, ty_obj_int, ty_obj_bool, ty_obj_str, ty_obj_tuple, ty_obj_list, tyOk_obj, isNon_obj, ty_own_list, ty_own_tuple, any1, any2, eq_self, decide_true, decide_false, endK_ret, objK_obj, wst_setFld, put_nil, put_ne, objOf_obj, objOf_own, fld_eq, fld_ne, ne_eq, Nat.reduceEqDiff, Nat.reduceBEq, Nat.zero_ne_one, Nat.one_ne_zero, not_false_eq_true, wp_cmp_obj, wp_len_obj, ansB_bl, tupK_tup, wp_items_obj,  Int.toNat_natCast, slW_d, slW_own, setFin_r, setFin_c, setFin_n, wp_items_lst, wp_items_tup, wp_items_str, bind_one, bind_two, toD_lst, wp_primlen_own, wp_primlen_at', lenK_lst, wp_primlen_str, pr_list, pr_tuple, pr_sorted, pr_max, pr_int, list_lst, list_tup, list_own, list_scr, tuple_lst, tuple_own, tuple_tup, int_int, wp_cmp_str, wp_cmp_bl, cmp_eqb, wa_ref', refK_own, wa_var, wa_cst, wa_lst, wa_tup, wa_idx, wa_bin, wa_call, wa_prim, wa_slc, wa_attr, wa_ite, wa_cmp, wa_comp, wa_rev, wa_isNone, wa_glob, wa_ccon, wa_prop, wl_ref', wl_newa, newK_new, wl_var, List.map_nil, List.map_cons, List.append_nil, decide_eq_true_eq, Bool.false_eq_true, ↓reduceIte, Bool.not_eq_true, Bool.not_true, Bool.not_false])
theorem text_c : ∀ (n N t : Nat) (l : Lv n), Sm n l → C (N + n) t 18 [.d (encT n l)] fun w _ => w = .d (.str (txt n l))
  | 0, N, t, l, _ => Empty.elim l
  | n + 1, N, t, l, h => by
    refine cs_of (n := N + n) (d := f_level_text) rfl rfl rfl ?_
    show Wp (execs _ _ _ _ f_level_text.body) ⟨t, [some (.d (encT (n + 1) l)), none, none, none]⟩ _
    unfold f_level_text
    rw [encT]
    dsimp only
    walk_at "ev"
    refine wp_forMapN (fun done e => ∃ x y, e = ⟨t, [some (.d (encT (n + 1) l)), some (.own (.lst (l.pl.map D.str ++ (done.map fun p => D.str (prt n p))))), x, y]⟩) ⟨none, none, by rw [encT, List.map_nil, List.append_nil]⟩ ?_ ?_
    · rintro e ⟨x, y, rfl⟩
      walk_at "ev"
      rw [joinc (ys := l.pl ++ l.inn.map fun p => prt n p) (by show some _ = _; rw [List.map_append, List.map_map]; rfl) (prts_sum h)]
      walk_at "ev"
      rfl
    · rintro done p rest e hd ⟨x, y, rfl⟩
      have hp : p ∈ l.inn := by rw [hd]; simp
      obtain ⟨s1, s2⟩ := prt_small h hp
      rw [bind_two]
      walk_at "ev"
      rw [add_str (by show p.1.length + 1 ≤ _; omega)]
      walk_at "ev"
      refine wp_callD1 (text_c n N t p.2 (h.inn hp).1) ?_
      walk_at "ev"
      rw [add_str (by rw [str_app_len]; show p.1.length + 1 + _ ≤ _; omega)]
      walk_at "ev"
      rw [add_str (by rw [str_app_len, str_app_len]; show p.1.length + 1 + _ + 1 ≤ _; omega)]
      walk_at "ev"
      refine ⟨fun _ => ?_, fun hh => absurd ?_ hh⟩
      · refine ⟨some (.d (.str p.1)), some (.d (encT n p.2)), ?_⟩
        rw [List.map_append, ← List.append_assoc]
        rfl
      · have h1 := h.len
        have h2 := h.1
        have h3 : done.length ≤ l.inn.length := by rw [hd]; simp
        simp only [List.length_append, List.length_map]
        omega
/-- a level's names below the plain ones -/
def low (n : Nat) (q : List (Str × Lv n)) : List Str := (q.map fun p => p.1 :: nms n p.2).flatten
theorem low_app {n : Nat} (a b : List (Str × Lv n)) : low n (a ++ b) = low n a ++ low n b := by unfold low; simp
theorem low_len {n : Nat} {l : Lv (n + 1)} {done rest : List (Str × Lv n)} {p : Str × Lv n} (hd : l.inn = done ++ p :: rest) : l.pl.length + (low n done).length + 1 + (nms n p.2).length ≤ (nms (n + 1) l).length := by
  have : nms (n + 1) l = l.pl ++ low n l.inn := rfl
  rw [this, hd, low_app, List.length_append, List.length_append]
  unfold low
  rw [List.map_cons, List.flatten_cons, List.length_append, List.length_cons]
  omega
theorem names_t : ∀ (n N t : Nat) (l : Lv n), Sm n l → C (N + n) t 17 [.d (encT n l)] fun w _ => w = .own (.lst ((nms n l).map .str))
  | 0, N, t, l, _ => Empty.elim l
  | n + 1, N, t, l, h => by
    refine cs_of (n := N + n) (d := f_level_names) rfl rfl rfl ?_
    show Wp (execs _ _ _ _ f_level_names.body) ⟨t, [some (.d (encT (n + 1) l)), none, none, none]⟩ _
    unfold f_level_names
    rw [encT]
    dsimp only
    walk_at "ev"
    refine wp_forMapN (fun done e => ∃ x y, e = ⟨t, [some (.d (encT (n + 1) l)), some (.own (.lst ((l.pl ++ low n done).map D.str))), x, y]⟩) ⟨none, none, by rw [encT]; unfold low; rw [List.map_nil, List.flatten_nil, List.append_nil]⟩ ?_ ?_
    · rintro e ⟨x, y, rfl⟩
      walk_at "ev"
      rfl
    · rintro done p rest e hd ⟨x, y, rfl⟩
      have hp : p ∈ l.inn := by rw [hd]; simp
      have hl := low_len hd
      have h1 := h.1
      rw [bind_two]
      walk_at "ev"
      rw [add_own (by simp; omega)]
      walk_at "ev"
      refine wp_callS1 (names_t n N t p.2 (h.inn hp).1) ?_
      walk_at "ev"
      rw [add_own (by simp; omega)]
      walk_at "ev"
      rw [low_app]
      unfold low
      simp
theorem foldl_max_app (a : List Nat) (x : Nat) : (a ++ [x]).foldl max 0 = max (a.foldl max 0) x := by rw [List.foldl_append]; rfl
theorem depth_t : ∀ (n N t : Nat) (l : Lv n), C (N + n) t 27 [.d (encT n l)] fun w _ => w = .d (.int (dep n l : Nat))
  | 0, N, t, l => Empty.elim l
  | n + 1, N, t, l => by
    refine cs_of (n := N + n) (d := f_level_depth) rfl rfl rfl ?_
    show Wp (execs _ _ _ _ f_level_depth.body) ⟨t, [some (.d (encT (n + 1) l)), none, none]⟩ _
    unfold f_level_depth
    rw [encT]
    dsimp only
    walk_at "ev"
    refine wp_forMapN (fun done e => ∃ x, e = ⟨t, [some (.d (encT (n + 1) l)), some (.d (.int ((done.map fun p => dep n p.2).foldl max 0 : Nat))), x]⟩) ⟨none, by rw [encT]; rfl⟩ ?_ ?_
    · rintro e ⟨x, rfl⟩
      walk_at "ev"
      rfl
    · rintro done p rest e hd ⟨x, rfl⟩
      rw [bind_one]
      walk_at "ev"
      refine wp_callD1 (depth_t n N t p.2) ?_
      have e1 : primb .max2 (.d (.int ((done.map fun p => dep n p.2).foldl max 0 : Nat))) (.d (.int (dep n p.2 : Nat))) = some (.d (.int (((done ++ [p]).map fun p => dep n p.2).foldl max 0 : Nat))) := by
        rw [List.map_append, List.map_cons, List.map_nil, foldl_max_app]
        show some (W.d (D.int (if _ > _ then _ else _))) = _
        congr 3
        split <;> omega
      walk_at "ev"
      rw [e1]
      walk_at "ev"
      exact ⟨_, rfl⟩
theorem ltext_c : ∀ (n N t v u : Nat) (l : Lv n), Sm n l → C (N + n) t 9 [.d (encM v u n l)] fun w _ => w = .d (.str (txt n l))
  | 0, N, t, v, u, l, _ => Empty.elim l
  | n + 1, N, t, v, u, l, h => by
    refine cs_of (n := N + n) (d := f__law_kind_text) rfl rfl rfl ?_
    show Wp (execs _ _ _ _ f__law_kind_text.body) ⟨t, [some (.d (encM v u (n + 1) l)), none, none]⟩ _
    unfold f__law_kind_text
    rw [encM]
    dsimp only
    walk_at "ev"
    refine wp_forMapN (fun done e => ∃ x, e = ⟨t, [some (.d (encM v u (n + 1) l)), some (.own (.lst (l.pl.map D.str ++ (done.map fun p => D.str (prt n p))))), x]⟩) ⟨none, by rw [encM, List.map_nil, List.append_nil]⟩ ?_ ?_
    · rintro e ⟨x, rfl⟩
      walk_at "ev"
      rw [joinc (ys := l.pl ++ l.inn.map fun p => prt n p) (by show some _ = _; rw [List.map_append, List.map_map]; rfl) (prts_sum h)]
      walk_at "ev"
      rfl
    · rintro done p rest e hd ⟨x, rfl⟩
      have hp : p ∈ l.inn := by rw [hd]; simp
      obtain ⟨s1, s2⟩ := prt_small h hp
      rw [bind_one]
      walk_at "ev"
      rw [add_str (by show p.1.length + 1 ≤ _; omega)]
      walk_at "ev"
      refine wp_callD1 (ltext_c n N t u u p.2 (h.inn hp).1) ?_
      walk_at "ev"
      rw [add_str (by rw [str_app_len]; show p.1.length + 1 + _ ≤ _; omega)]
      walk_at "ev"
      rw [add_str (by rw [str_app_len, str_app_len]; show p.1.length + 1 + _ + 1 ≤ _; omega)]
      walk_at "ev"
      refine ⟨fun _ => ?_, fun hh => absurd ?_ hh⟩
      · refine ⟨some (.d (.lst u [.str p.1, encL u n p.2])), ?_⟩
        rw [List.map_append, ← List.append_assoc]
        rfl
      · have h1 := h.len
        have h2 := h.1
        have h3 : done.length ≤ l.inn.length := by rw [hd]; simp
        simp only [List.length_append, List.length_map]
        omega
theorem all_c : ∀ (n N t v u : Nat) (l : Lv n), Sm n l → C (N + n) t 4 [.d (encM v u n l)] fun w _ => w = .own (.lst ((nms n l).map .str))
  | 0, N, t, v, u, l, _ => Empty.elim l
  | n + 1, N, t, v, u, l, h => by
    refine cs_of (n := N + n) (d := f__law_all) rfl rfl rfl ?_
    show Wp (execs _ _ _ _ f__law_all.body) ⟨t, [some (.d (encM v u (n + 1) l)), none, none]⟩ _
    unfold f__law_all
    rw [encM]
    dsimp only
    walk_at "ev"
    refine wp_forMapN (fun done e => ∃ x, e = ⟨t, [some (.d (encM v u (n + 1) l)), some (.own (.lst ((l.pl ++ low n done).map D.str))), x]⟩) ⟨none, by rw [encM]; unfold low; rw [List.map_nil, List.flatten_nil, List.append_nil]⟩ ?_ ?_
    · rintro e ⟨x, rfl⟩
      walk_at "ev"
      rfl
    · rintro done p rest e hd ⟨x, rfl⟩
      have hp : p ∈ l.inn := by rw [hd]; simp
      have hl := low_len hd
      have h1 := h.1
      rw [bind_one]
      walk_at "ev"
      rw [add_own (by simp; omega)]
      walk_at "ev"
      refine wp_callS1 (all_c n N t u u p.2 (h.inn hp).1) ?_
      walk_at "ev"
      rw [add_own (by simp; omega)]
      walk_at "ev"
      rw [low_app]
      unfold low
      simp
theorem maxI_nat (a : List Nat) : ∀ (x : Nat), (a.map fun (k : Nat) => (k : Int)).foldl max (x : Int) = ((a.foldl max x : Nat) : Int) := by
  induction a with
  | nil => intro x; rfl
  | cons y a ih =>
    intro x
    rw [List.map_cons, List.foldl_cons, List.foldl_cons, ← ih]
    congr 1
    omega
theorem ints_map (a : List Nat) : ints? (a.map fun (k : Nat) => D.int (k : Int)) = some (a.map fun (k : Nat) => (k : Int)) := by
  induction a with
  | nil => rfl
  | cons y a ih => rw [List.map_cons, ints?, ih]; rfl
theorem ldepth_c : ∀ (n N t v u : Nat) (l : Lv n), Sm n l → C (N + n) t 24 [.d (encM v u n l)] fun w _ => w = .d (.int (dep n l : Nat))
  | 0, N, t, v, u, l, _ => Empty.elim l
  | n + 1, N, t, v, u, l, h => by
    refine cs_of (n := N + n) (d := f__law_depth) rfl rfl rfl ?_
    show Wp (execs _ _ _ _ f__law_depth.body) ⟨t, [some (.d (encM v u (n + 1) l)), none]⟩ _
    unfold f__law_depth
    rw [encM]
    dsimp only
    have hlen := h.len
    have h100 := h.1
    walk_at "ev"
    refine wp_comp_mapF (ys := l.inn) (f := fun p => .lst u [.str p.1, encL u n p.2]) (g := fun p => .int (dep n p.2 : Nat)) ?_
    walk_at "ev"
    refine ⟨by omega, fun p hp => ?_, ?_⟩
    · refine wp_callD1 (ldepth_c n N t u u p.2 (h.inn hp).1) ?_
      walk_at "ev"
    · rw [add_own (by simp; omega)]
      walk_at "ev"
      have e1 : prim1 .max (.own (.lst ([.int 0] ++ l.inn.map fun p => .int (dep n p.2 : Nat)))) = some (.d (.int ((l.inn.map fun p => dep n p.2).foldl max 0 : Nat))) := by
        have : ([.int 0] ++ l.inn.map fun p => D.int (dep n p.2 : Nat)) = (0 :: l.inn.map fun p => dep n p.2).map fun (k : Nat) => D.int (k : Int) := by
          rw [List.map_cons, List.map_map]; rfl
        rw [this]
        unfold prim1
        dsimp only [Sl.lst?]
        rw [ints_map]
        dsimp only
        rw [List.map_cons]
        show (maxI (_ :: _)).map _ = _
        unfold maxI
        show some (W.d (D.int (List.foldl max ((0 : Nat) : Int) _))) = _
        rw [maxI_nat]
      rw [e1]
      walk_at "ev"
      show Sl.d (.int (1 + _)) = Sl.d (.int _)
      rw [dep]
      congr 2
      omega
end MV
set_option maxHeartbeats 1000000
namespace MV
open PySem
local macro_rules | `(tactic| walk_at "ev") => `(tactic| try simp only [brK_open, ↓brU_true, ↓brU_false, wp_ret, wp_bnd, wp_bad, wp_some, wp_none, wp_var, slotK_d, slotK_own, wp_rd_d, wp_rd_new, getK_some, wp_rd_at, wp_frz_d, wp_frz_new, frzK_d, frzK_own, wp_frz_at, wp_sto_d, wp_sto_new, wp_sto_at, wp_setSl, ownK_lst, wp_ownLst, wp_tr, wp_noX,
  wv_cst, wv_glob, wv_ccon, wv_tup, wv_lst, wv_bin, wv_cmp, wv_isNone, wv_notNone, wv_not, wv_and, wv_or, wv_ite, wv_idx, wv_slc, wv_rev, wv_prim, wv_prim2, wv_joinc, wv_isin, wv_call, wv_callL, wv_pop, popK_lst, wv_attr, wv_prop, wv_comp, wv_mk, wv_rng0, wv_chain,
  we_nil, we_cons, wa_nil, wo_none, wo_some, ws_nil, ws_cons, seqK_next, seqK_ret, seqK_brk, seqK_cont, wst_expr, wst_asg, wst_asgT, wst_append, wst_insert, wst_setIx, wst_ret, wst_ite, wst_for, wst_brk, wst_cont, wst_pass, wst_bad,
  get_mk, set_mk, List.getElem?_cons_zero, List.getElem?_cons_succ, Option.join_some, Option.join_none, List.set_cons_zero, List.set_cons_succ,
  Option.bind_some, List.length_cons, List.length_nil, ix_0, ix_1, ix_2, ix_3, ix_4, ix_5, ix_6, ix_7, ix_8, ix_9, ix_10, ix_11, ix_12, ix_13, ix_m1, item_own, item_lst, item_tup, add_int, sub_int, cmp_le, cmp_lt, cmp_gt, cmp_ge, cmp_eqi, cmp_nei, wp_cmp_int, truth_bl, truth_int, out_d, out_new, out_at, outK_own, allOwn_nil, allOwn_cons, isO_own, true_and, and_true, List.contains_cons, List.contains_nil, Bool.or_false, Bool.false_or, Bool.or_self, Bool.true_or, Bool.or_true, wp_primlen_lst, wp_primlen_tup, intOf_int, ty_non_int, ty_non_bool, ty_non_str, ty_non_tuple, ty_non_list, tyOk_non, isNon_non, ty_bl_int, ty_bl_bool, ty_bl_str, ty_bl_tuple, ty_bl_list, tyOk_bl, isNon_bl, ty_int_int, ty_int_bool, ty_int_str, ty_int_tuple, ty_int_list, tyOk_int, isNon_int, ty_str_int, ty_str_bool, ty_str_str, ty_str_tuple, ty_str_list, tyOk_str, isNon_str, ty_tup_int, ty_tup_bool, ty_tup_str, ty_tup_tuple, ty_tup_list, tyOk_tup, isNon_tup, ty_lst_int, ty_lst_bool, ty_lst_str, ty_lst_tuple, ty_lst_list, tyOk_lst, isNon_lst, ty_obj_int, ty_obj_bool, ty_obj_str, ty_obj_tuple, ty_obj_list, tyOk_obj, isNon_obj, ty_own_list, ty_own_tuple, any1, any2, eq_self, decide_true, decide_false, endK_ret, objK_obj, wst_setFld, put_nil, put_ne, objOf_obj, objOf_own, fld_eq, fld_ne, ne_eq, Nat.reduceEqDiff, Nat.reduceBEq, Nat.zero_ne_one, Nat.one_ne_zero, not_false_eq_true, wp_cmp_obj, wp_len_obj, ansB_bl, tupK_tup, wp_items_obj,  Int.toNat_natCast, slW_d, slW_own, setFin_r, setFin_c, setFin_n, wp_items_lst, wp_items_tup, wp_items_str, bind_one, bind_two, toD_lst, wp_primlen_own, wp_primlen_at', lenK_lst, wp_primlen_str, pr_list, pr_tuple, pr_sorted, pr_max, pr_int, list_lst, list_tup, list_own, list_scr, tuple_lst, tuple_own, tuple_tup, int_int, wp_cmp_str, wp_cmp_bl, cmp_eqb, wa_ref', refK_own, wa_var, wa_cst, wa_lst, wa_tup, wa_idx, wa_bin, wa_call, wa_prim, wa_slc, wa_attr, wa_ite, wa_cmp, wa_comp, wa_rev, wa_isNone, wa_glob, wa_ccon, wa_prop, wl_ref', wl_newa, newK_new, wl_var, List.map_nil, List.map_cons, List.append_nil, decide_eq_true_eq, Bool.false_eq_true, ↓reduceIte, Bool.not_eq_true, Bool.not_true, Bool.not_false])
mutual
/-- alike, but for epochs -/
def Eqv : D → D → Prop
  | .non, .non => True
  | .bl a, .bl b => a = b
  | .int i, .int j => i = j
  | .str x, .str y => x = y ∧ sOk x
  | .tup xs, .tup ys => EqvL xs ys ∧ ys.length < 1000000
  | .lst _ xs, .lst _ ys => EqvL xs ys ∧ ys.length < 1000000
  | _, _ => False
def EqvL : List D → List D → Prop
  | [], [] => True
  | x :: xs, y :: ys => Eqv x y ∧ EqvL xs ys
  | _, _ => False
end
theorem EqvL.len : ∀ {xs ys : List D}, EqvL xs ys → xs.length = ys.length
  | [], [], _ => rfl
  | [], _ :: _, h => by unfold EqvL at h; exact h.elim
  | _ :: _, [], h => by unfold EqvL at h; exact h.elim
  | x :: xs, y :: ys, h => by
    unfold EqvL at h
    rw [List.length_cons, List.length_cons, EqvL.len h.2]
theorem EqvL.get : ∀ {xs ys : List D} {k : Nat}, EqvL xs ys → k < ys.length → ∃ x y, xs[k]? = some x ∧ ys[k]? = some y ∧ Eqv x y ∧ depthD y ≤ depthL ys
  | [], [], k, _, h => by cases h
  | [], _ :: _, k, h, _ => by unfold EqvL at h; exact h.elim
  | _ :: _, [], k, h, _ => by unfold EqvL at h; exact h.elim
  | x :: xs, y :: ys, 0, h, _ => by
    unfold EqvL at h
    exact ⟨x, y, rfl, rfl, h.1, by unfold depthL; omega⟩
  | x :: xs, y :: ys, k + 1, h, hk => by
    unfold EqvL at h
    obtain ⟨a, b, h1, h2, h3, h4⟩ := EqvL.get (k := k) h.2 (by simpa using hk)
    exact ⟨a, b, by simpa using h1, by simpa using h2, h3, by rw [depthL]; omega⟩
theorem same_seq {n N t : Nat} {xs ys : List D} {X Y : D} {z : Option Sl} (hx : (Sl.d X).seq? = some xs) (hy : (Sl.d Y).seq? = some ys) (iX : ∀ i : Int, item (.d X) (.d (.int i)) = (ix xs.length i).bind fun j => xs[j]?) (iY : ∀ i : Int, item (.d Y) (.d (.int i)) = (ix ys.length i).bind fun j => ys[j]?) (h : EqvL xs ys)
    (IH : ∀ x y, Eqv x y → depthD y ≤ depthL ys → C (N + n + 1) t 14 [.d x, .d y] fun w _ => w = .d (.bl true)) (hl : ys.length < 1000000) :
    Wp (execs info (callF info fns 0 (N + n + 1)) [] 0 (f__law_same.body.drop 6)) ⟨t, [some (.d X), some (.d Y), z]⟩ (endK 2 [] fun w _ => w = .d (.bl true)) := by
  unfold f__law_same
  dsimp only [List.drop]
  have e1 : ∀ {e : Env} {Q : W → Env → Prop}, Wp (primM info (callF info fns 0 (N + n + 1)) .len (.d X)) e Q = Q (.d (.int xs.length)) e := wp_primlen_seq hx
  have e2 : ∀ {e : Env} {Q : W → Env → Prop}, Wp (primM info (callF info fns 0 (N + n + 1)) .len (.d Y)) e Q = Q (.d (.int ys.length)) e := wp_primlen_seq hy
  walk_at "ev"
  rw [e1]
  walk_at "ev"
  rw [e2]
  walk_at "ev"
  rw [h.len]
  walk_at "ev"
  rw [e2]
  walk_at "ev"
  refine rngN hl ?_
  unfold rangeD
  refine wp_forMap (fun done e => ∃ z, e = ⟨t, [some (.d X), some (.d Y), z]⟩) ⟨z, rfl⟩ ?_ ?_
  · rintro e ⟨z, rfl⟩
    walk_at "ev"
  · rintro done k rest e hd ⟨z, rfl⟩
    have hk : k < ys.length := by
      have : k ∈ List.range ys.length := by rw [hd]; simp
      exact List.mem_range.mp this
    obtain ⟨x, y, h1, h2, h3, h4⟩ := h.get hk
    rw [bind_one]
    walk_at "ev"
    rw [iX, h.len, ix_in (by omega) (by omega), Option.bind_some, Int.toNat_natCast, h1]
    walk_at "ev"
    rw [iY, ix_in (by omega) (by omega), Option.bind_some, Int.toNat_natCast, h2]
    walk_at "ev"
    refine wp_callD2 (IH x y h3 h4) ?_
    walk_at "ev"
    exact ⟨_, rfl⟩

theorem same_c : ∀ (n N t : Nat) (x y : D), Eqv x y → depthD y ≤ n → C (N + n + 1) t 14 [.d x, .d y] fun w _ => w = .d (.bl true)
  | n, N, t, x, y, h, hd => by
    refine cs_of (n := N + n) (d := f__law_same) rfl rfl rfl ?_
    show Wp (execs _ _ _ _ f__law_same.body) ⟨t, [some (.d x), some (.d y), none]⟩ _
    cases y with
    | non =>
      cases x <;> (unfold Eqv at h; first | exact h.elim | skip)
      unfold f__law_same
      dsimp only
      walk_at "ev"
    | bl b =>
      cases x <;> (unfold Eqv at h; first | exact h.elim | skip)
      subst h
      unfold f__law_same
      dsimp only
      walk_at "ev"
      simp
    | int b =>
      cases x <;> (unfold Eqv at h; first | exact h.elim | skip)
      subst h
      unfold f__law_same
      dsimp only
      walk_at "ev"
    | str b =>
      cases x <;> (unfold Eqv at h; first | exact h.elim | skip)
      obtain ⟨rfl, h⟩ := h
      unfold f__law_same
      dsimp only
      walk_at "ev"
      rw [cmp_eqs h h]
      walk_at "ev"
    | tup ys =>
      cases x <;> (unfold Eqv at h; first | exact h.elim | skip)
      unfold depthD at hd
      rename_i xs
      match n, hd with
      | n + 1, hd =>
        refine ws_cut 6 (fun e => e = ⟨t, [some (.d (.tup xs)), some (.d (.tup ys)), none]⟩) ?_ ?_
        · unfold f__law_same
          dsimp only [List.take]
          walk_at "ev"
        · rintro e1 rfl
          exact same_seq (N := N) (n := n) rfl rfl (fun _ => rfl) (fun _ => rfl) h.1 (fun x y h3 h4 => same_c n N t x y h3 (by omega)) h.2
    | lst u ys =>
      cases x <;> (unfold Eqv at h; first | exact h.elim | skip)
      unfold depthD at hd
      rename_i v xs
      match n, hd with
      | n + 1, hd =>
        refine ws_cut 6 (fun e => e = ⟨t, [some (.d (.lst v xs)), some (.d (.lst u ys)), none]⟩) ?_ ?_
        · unfold f__law_same
          dsimp only [List.take]
          walk_at "ev"
        · rintro e1 rfl
          exact same_seq (N := N) (n := n) rfl rfl (fun _ => rfl) (fun _ => rfl) h.1 (fun x y h3 h4 => same_c n N t x y h3 (by omega)) h.2
    | obj c ns xs => cases x <;> (unfold Eqv at h; exact h.elim)
    | scr ns => cases x <;> (unfold Eqv at h; exact h.elim)
end MV
set_option maxHeartbeats 1000000
namespace MV
open PySem
local macro_rules | `(tactic| walk_at "ev") => `(tactic| try simp only [brK_open, ↓brU_true, ↓brU_false, wp_ret, wp_bnd, wp_bad, wp_some, wp_none, wp_var, slotK_d, slotK_own, wp_rd_d, wp_rd_new, getK_some, wp_rd_at, wp_frz_d, wp_frz_new, frzK_d, frzK_own, wp_frz_at, wp_sto_d, wp_sto_new, wp_sto_at, wp_setSl, ownK_lst, wp_ownLst, wp_tr, wp_noX,
  wv_cst, wv_glob, wv_ccon, wv_tup, wv_lst, wv_bin, wv_cmp, wv_isNone, wv_notNone, wv_not, wv_and, wv_or, wv_ite, wv_idx, wv_slc, wv_rev, wv_prim, wv_prim2, wv_joinc, wv_isin, wv_call, wv_callL, wv_pop, popK_lst, wv_attr, wv_prop, wv_comp, wv_mk, wv_rng0, wv_chain,
  we_nil, we_cons, wa_nil, wo_none, wo_some, ws_nil, ws_cons, seqK_next, seqK_ret, seqK_brk, seqK_cont, wst_expr, wst_asg, wst_asgT, wst_append, wst_insert, wst_setIx, wst_ret, wst_ite, wst_for, wst_brk, wst_cont, wst_pass, wst_bad,
  get_mk, set_mk, List.getElem?_cons_zero, List.getElem?_cons_succ, Option.join_some, Option.join_none, List.set_cons_zero, List.set_cons_succ,
  Option.bind_some, List.length_cons, List.length_nil, ix_0, ix_1, ix_2, ix_3, ix_4, ix_5, ix_6, ix_7, ix_8, ix_9, ix_10, ix_11, ix_12, ix_13, ix_m1, item_own, item_lst, item_tup, add_int, sub_int, cmp_le, cmp_lt, cmp_gt, cmp_ge, cmp_eqi, cmp_nei, wp_cmp_int, truth_bl, truth_int, out_d, out_new, out_at, outK_own, allOwn_nil, allOwn_cons, isO_own, true_and, and_true, List.contains_cons, List.contains_nil, Bool.or_false, Bool.false_or, Bool.or_self, Bool.true_or, Bool.or_true, wp_primlen_lst, wp_primlen_tup, intOf_int, ty_non_int, ty_non_bool, ty_non_str, ty_non_tuple, ty_non_list, tyOk_non, isNon_non, ty_bl_int, ty_bl_bool, ty_bl_str, ty_bl_tuple, ty_bl_list, tyOk_bl, isNon_bl, ty_int_int, ty_int_bool, ty_int_str, ty_int_tuple, ty_int_list, tyOk_int, isNon_int, ty_str_int, ty_str_bool, ty_str_str, ty_str_tuple, ty_str_list, tyOk_str, isNon_str, ty_tup_int, ty_tup_bool, ty_tup_str, ty_tup_tuple, ty_tup_list, tyOk_tup, isNon_tup, ty_lst_int, ty_lst_bool, ty_lst_str, ty_lst_tuple, ty_lst_list, tyOk_lst, isNon_lst, ty_obj_int, ty_obj_bool, ty_obj_str, ty_obj_tuple, ty_obj_list, tyOk_obj, isNon_obj, ty_own_list, ty_own_tuple, any1, any2, eq_self, decide_true, decide_false, endK_ret, objK_obj, wst_setFld, put_nil, put_ne, objOf_obj, objOf_own, fld_eq, fld_ne, ne_eq, Nat.reduceEqDiff, Nat.reduceBEq, Nat.zero_ne_one, Nat.one_ne_zero, not_false_eq_true, wp_cmp_obj, wp_len_obj, ansB_bl, tupK_tup, wp_items_obj,  Int.toNat_natCast, slW_d, slW_own, setFin_r, setFin_c, setFin_n, wp_items_lst, wp_items_tup, wp_items_str, bind_one, bind_two, toD_lst, wp_primlen_own, wp_primlen_at', lenK_lst, wp_primlen_str, pr_list, pr_tuple, pr_sorted, pr_max, pr_int, list_lst, list_tup, list_own, list_scr, tuple_lst, tuple_own, tuple_tup, int_int, wp_cmp_str, wp_cmp_bl, cmp_eqb, wa_ref', refK_own, wa_var, wa_cst, wa_lst, wa_tup, wa_idx, wa_bin, wa_call, wa_prim, wa_slc, wa_attr, wa_ite, wa_cmp, wa_comp, wa_rev, wa_isNone, wa_glob, wa_ccon, wa_prop, wl_ref', wl_newa, newK_new, wl_var, List.map_nil, List.map_cons, List.append_nil, decide_eq_true_eq, Bool.false_eq_true, ↓reduceIte, Bool.not_eq_true, Bool.not_true, Bool.not_false])
mutual
def Pur : D → Prop
  | .str x => sOk x
  | .tup xs => PurL xs ∧ xs.length < 1000000
  | .lst _ xs => PurL xs ∧ xs.length < 1000000
  | .obj _ _ _ => False
  | .scr _ => False
  | _ => True
def PurL : List D → Prop
  | [] => True
  | x :: xs => Pur x ∧ PurL xs
end
mutual
def cp (t : Nat) : D → D
  | .tup xs => .tup (cpL t xs)
  | .lst _ xs => .lst t (cpL t xs)
  | .non => .non
  | .bl b => .bl b
  | .int i => .int i
  | .str x => .str x
  | .obj c ns xs => .obj c ns xs
  | .scr ns => .scr ns
def cpL (t : Nat) : List D → List D
  | [] => []
  | x :: xs => cp t x :: cpL t xs
end
theorem cpL_map (t : Nat) : ∀ xs, cpL t xs = xs.map (cp t)
  | [] => by rw [cpL]; rfl
  | x :: xs => by rw [cpL, cpL_map t xs]; rfl
mutual
theorem eqv_cp (t : Nat) : ∀ d, Pur d → Eqv d (cp t d)
  | .non, _ => by rw [cp]; unfold Eqv; trivial
  | .bl b, _ => by rw [cp]; unfold Eqv; rfl
  | .int i, _ => by rw [cp]; unfold Eqv; rfl
  | .str x, h => by rw [cp]; unfold Pur at h; unfold Eqv; exact ⟨rfl, h⟩
  | .tup xs, h => by rw [cp]; unfold Pur at h; unfold Eqv; exact ⟨eqv_cpL t xs h.1, by rw [cpL_map, List.length_map]; exact h.2⟩
  | .lst u xs, h => by rw [cp]; unfold Pur at h; unfold Eqv; exact ⟨eqv_cpL t xs h.1, by rw [cpL_map, List.length_map]; exact h.2⟩
  | .obj _ _ _, h => by unfold Pur at h; exact h.elim
  | .scr _, h => by unfold Pur at h; exact h.elim
theorem eqv_cpL (t : Nat) : ∀ xs, PurL xs → EqvL xs (cpL t xs)
  | [], _ => by rw [cpL]; unfold EqvL; trivial
  | x :: xs, h => by rw [cpL]; unfold PurL at h; unfold EqvL; exact ⟨eqv_cp t x h.1, eqv_cpL t xs h.2⟩
end
mutual
theorem depth_cp (t : Nat) : ∀ d, depthD (cp t d) = depthD d
  | .non => by rw [cp]
  | .bl b => by rw [cp]
  | .int i => by rw [cp]
  | .str x => by rw [cp]
  | .tup xs => by rw [cp, depthD, depthD, depth_cpL t xs]
  | .lst u xs => by rw [cp, depthD, depthD, depth_cpL t xs]
  | .obj _ _ _ => by rw [cp]
  | .scr _ => by rw [cp]
theorem depth_cpL (t : Nat) : ∀ xs, depthL (cpL t xs) = depthL xs
  | [] => by rw [cpL]
  | x :: xs => by rw [cpL, depthL, depthL, depth_cp t x, depth_cpL t xs]
end
def cpS (t : Nat) : D → Sl
  | .lst _ xs => .own (.lst (cpL t xs))
  | d => .d (cp t d)
theorem frz_cpS {t : Nat} {d : D} {l : List (Option Sl)} {Q : D → Env → Prop} : Wp (frz (slW (cpS t d))) ⟨t, l⟩ Q = Q (cp t d) ⟨t, l⟩ := by
  cases d with
  | lst u xs => rw [cpS, slW_own, wp_frz_new, toD_lst, cp]
  | _ => exact wp_frz_d
theorem purL_mem : ∀ {xs : List D}, PurL xs → ∀ x ∈ xs, Pur x ∧ depthD x ≤ depthL xs
  | [], _, x, h => by cases h
  | y :: ys, h, x, hx => by
    unfold PurL at h
    rcases List.mem_cons.mp hx with rfl | hx
    · exact ⟨h.1, by unfold depthL; omega⟩
    · obtain ⟨a, b⟩ := purL_mem h.2 x hx
      exact ⟨a, by rw [depthL]; omega⟩
theorem copied_c : ∀ (n N t : Nat) (d : D), Pur d → depthD d ≤ n → C (N + n + 1) t 5 [.d d] fun w _ => w = cpS t d
  | n, N, t, d, h, hd => by
    refine cs_of (n := N + n) (d := f__law_copied) rfl rfl rfl ?_
    show Wp (execs _ _ _ _ f__law_copied.body) ⟨t, [some (.d d), none]⟩ _
    cases d with
    | lst u xs =>
      unfold depthD at hd
      unfold Pur at h
      match n, hd with
      | n + 1, hd =>
        unfold f__law_copied
        dsimp only
        walk_at "ev"
        refine wp_comp_mapF (ys := xs) (f := id) (g := cp t) ?_
        walk_at "ev"
        refine ⟨by rw [List.map_id], by omega, fun y hy => ?_, by rw [cpS, cpL_map]⟩
        obtain ⟨h1, h2⟩ := purL_mem h.1 y hy
        refine wp_callS1 (copied_c n N t y h1 (by omega)) ?_
        rw [frz_cpS]
        exact ⟨rfl, rfl⟩
    | tup xs =>
      unfold depthD at hd
      unfold Pur at h
      match n, hd with
      | n + 1, hd =>
        unfold f__law_copied
        dsimp only
        walk_at "ev"
        refine wp_comp_mapF (ys := xs) (f := id) (g := cp t) ?_
        walk_at "ev"
        refine ⟨by rw [List.map_id], by omega, fun y hy => ?_, by show Sl.d (.tup _) = Sl.d (cp t (.tup xs)); rw [cp, cpL_map]⟩
        obtain ⟨h1, h2⟩ := purL_mem h.1 y hy
        refine wp_callS1 (copied_c n N t y h1 (by omega)) ?_
        rw [frz_cpS]
        exact ⟨rfl, rfl⟩
    | obj _ _ _ => unfold Pur at h; exact h.elim
    | scr _ => unfold Pur at h; exact h.elim
    | non => unfold f__law_copied; dsimp only; walk_at "ev"; rfl
    | bl b => unfold f__law_copied; dsimp only; walk_at "ev"; rfl
    | int b => unfold f__law_copied; dsimp only; walk_at "ev"; rfl
    | str b => unfold f__law_copied; dsimp only; walk_at "ev"; rfl
/-! ### valid_name -/
theorem glob0 : info.glob 0 = some (.str alpha) := rfl
theorem glob1 : info.glob 1 = some (.int 8) := rfl
theorem glob2 : info.glob 2 = some (.int 4) := rfl
theorem glob3 : info.glob 3 = some (.int 12) := rfl
theorem occ_ok : ∀ j < 26, (Builtin.Str.occurrences alpha (ch j) 0 alpha.length 1).isEmpty = false := by decide +kernel
theorem notin_alpha {c : Nat} (h : 97 ≤ c ∧ c < 123) : cmpop .notin (.d (.str ⟨#[c]⟩)) (.d (.str alpha)) = some false := by
  have e : (⟨#[c]⟩ : Str) = ch (c - 97) := by unfold ch; rw [show 97 + (c - 97) = c by omega]
  rw [e]
  show some (!(!(Builtin.Str.occurrences alpha (ch (c - 97)) 0 alpha.length 1).isEmpty)) = _
  rw [occ_ok _ (by omega)]
  rfl
theorem valid_c {N t : Nat} {x : Str} (h : Nm x) : C (N + 1) t 25 [.d (.str x)] fun w _ => w = .d (.bl true) := by
  refine cs_of (n := N) (d := f_valid_name) rfl rfl rfl ?_
  show Wp (execs _ _ _ _ f_valid_name.body) ⟨t, [some (.d (.str x)), none]⟩ _
  unfold f_valid_name
  dsimp only
  walk_at "ev"
  refine ⟨fun h1 => ?_, fun h1 => absurd (by have := h.1.1; omega) h1⟩
  rw [glob1]
  walk_at "ev"
  refine ⟨fun h2 => absurd h2 (by have := h.1.2; simp; omega), fun _ => ?_⟩
  walk_at "ev"
  refine wp_forMapN (fun _ e => ∃ z, e = ⟨t, [some (.d (.str x)), z]⟩) ⟨none, rfl⟩ ?_ ?_
  · rintro e ⟨z, rfl⟩
    walk_at "ev"
  · rintro done c rest e hd ⟨z, rfl⟩
    rw [bind_one]
    walk_at "ev"
    rw [glob0]
    walk_at "ev"
    rw [notin_alpha (h.2 c (by rw [hd]; simp))]
    walk_at "ev"
    exact ⟨_, rfl⟩
end MV
/-! K01P: sorting levels. -/
namespace MV
open PySem
theorem al_strs : ∀ xs ys : List Str, PySem.W.alikeAll (xs.map PyData.str) (ys.map PyData.str) = true
  | [], ys => by cases ys <;> (unfold PySem.W.alikeAll; rfl)
  | x :: xs, [] => by unfold PySem.W.alikeAll; rfl
  | x :: xs, y :: ys => by
    rw [List.map_cons, List.map_cons, PySem.W.alikeAll, al_strs xs ys]
    rfl
theorem al_map {α : Type} (f : α → PyData) (h : ∀ a b, PySem.W.alike (f a) (f b) = true) : ∀ xs ys : List α, PySem.W.alikeAll (xs.map f) (ys.map f) = true
  | [], ys => by cases ys <;> (unfold PySem.W.alikeAll; rfl)
  | x :: xs, [] => by unfold PySem.W.alikeAll; rfl
  | x :: xs, y :: ys => by
    rw [List.map_cons, List.map_cons, PySem.W.alikeAll, al_map f h xs ys, h]
    rfl
/-- a way to write levels -/
structure Enc (n : Nat) (E : Lv n → D) : Prop where
  ip : ∀ l, isPy (E l) = true
  al : ∀ a b, PySem.W.alike (py (E a)) (py (E b)) = true
  dp : ∀ l, (py (E l)).depth ≤ 3 * n + 2
theorem dep_map {α : Type} {f : α → PyData} {m : Nat} (h : ∀ a, (f a).depth ≤ m) : ∀ xs : List α, PyData.depthAll (xs.map f) ≤ m
  | [] => Nat.zero_le _
  | x :: xs => by
    rw [List.map_cons, PyData.depthAll]
    exact Nat.max_le.mpr ⟨h x, dep_map h xs⟩
theorem pyL_map {α : Type} (f : α → D) (xs : List α) : pyL (xs.map f) = xs.map fun a => py (f a) := by rw [pyL_eq, List.map_map]; rfl
theorem isPyL_map {α : Type} (f : α → D) (h : ∀ a, isPy (f a) = true) (xs : List α) : isPyL (xs.map f) = true := by
  rw [isPyL_eq, List.all_eq_true]
  intro z hz
  obtain ⟨a, _, rfl⟩ := List.mem_map.mp hz
  exact h a
theorem isPy_str (x : Str) : isPy (.str x) = true := by unfold isPy; rfl
theorem py_str (x : Str) : py (.str x) = .str x := by unfold py; rfl
theorem enc_T : ∀ n, Enc n (encT n)
  | 0 => ⟨fun l => Empty.elim l, fun a => Empty.elim a, fun l => Empty.elim l⟩
  | n + 1 => by
    obtain ⟨h1, h2, h3⟩ := enc_T n
    have e : ∀ l : Lv (n + 1), py (encT (n + 1) l) = .tuple [.tuple (l.pl.map .str), .tuple (l.inn.map fun p => .tuple [.str p.1, py (encT n p.2)])] := fun l => by
      rw [encT, py, pyL, pyL, pyL, py, py, pyL_map, pyL_map]
      simp only [py, pyL]
    refine ⟨fun l => ?_, fun a b => ?_, fun l => ?_⟩
    · rw [encT, isPy, isPyL, isPyL, isPyL, isPy, isPy, isPyL_map _ isPy_str, isPyL_map]
      · rfl
      · intro p
        rw [isPy, isPyL, isPyL, isPyL, isPy_str, h1]; rfl
    · rw [e, e, PySem.W.alike, PySem.W.alikeAll, PySem.W.alikeAll, PySem.W.alikeAll, PySem.W.alike, PySem.W.alike, al_strs, al_map]
      · rfl
      · intro p q
        rw [PySem.W.alike, PySem.W.alikeAll, PySem.W.alikeAll, PySem.W.alikeAll, PySem.W.alike, h2]; rfl
    · rw [e, PyData.depth, PyData.depthAll, PyData.depthAll, PyData.depthAll, PyData.depth, PyData.depth]
      have d1 := dep_map (f := PyData.str) (m := 0) (fun a => by rw [PyData.depth]; exact Nat.le_refl _) l.pl
      have d2 := dep_map (f := fun p : Str × Lv n => PyData.tuple [.str p.1, py (encT n p.2)]) (m := 3 * n + 3) (fun p => by
        rw [PyData.depth, PyData.depthAll, PyData.depthAll, PyData.depthAll, PyData.depth]
        have := h3 p.2
        omega) l.inn
      omega

theorem enc_L (u : Nat) : ∀ n, Enc n (encL u n)
  | 0 => ⟨fun l => Empty.elim l, fun a => Empty.elim a, fun l => Empty.elim l⟩
  | n + 1 => by
    obtain ⟨h1, h2, h3⟩ := enc_L u n
    have e : ∀ l : Lv (n + 1), py (encL u (n + 1) l) = .list [.list (l.pl.map .str), .list (l.inn.map fun p => .list [.str p.1, py (encL u n p.2)])] := fun l => by
      rw [encL, encM, py, pyL, pyL, pyL, py, py, pyL_map, pyL_map]
      simp only [py, pyL]
    refine ⟨fun l => ?_, fun a b => ?_, fun l => ?_⟩
    · rw [encL, encM, isPy, isPyL, isPyL, isPyL, isPy, isPy, isPyL_map _ isPy_str, isPyL_map]
      · rfl
      · intro p
        rw [isPy, isPyL, isPyL, isPyL, isPy_str, h1]; rfl
    · rw [e, e, PySem.W.alike, PySem.W.alikeAll, PySem.W.alikeAll, PySem.W.alikeAll, PySem.W.alike, PySem.W.alike, al_strs, al_map]
      · rfl
      · intro p q
        rw [PySem.W.alike, PySem.W.alikeAll, PySem.W.alikeAll, PySem.W.alikeAll, PySem.W.alike, h2]; rfl
    · rw [e, PyData.depth, PyData.depthAll, PyData.depthAll, PyData.depthAll, PyData.depth, PyData.depth]
      have d1 := dep_map (f := PyData.str) (m := 0) (fun a => by rw [PyData.depth]; exact Nat.le_refl _) l.pl
      have d2 := dep_map (f := fun p : Str × Lv n => PyData.list [.str p.1, py (encL u n p.2)]) (m := 3 * n + 3) (fun p => by
        rw [PyData.depth, PyData.depthAll, PyData.depthAll, PyData.depthAll, PyData.depth]
        have := h3 p.2
        omega) l.inn
      omega
theorem sorted_strs {s : Sl} {xs : List Str} (h : s.lst? = some (xs.map D.str)) : prim1 .sorted s = some (.new (.lst ((srt xs).map D.str))) := by
  unfold prim1
  dsimp only
  rw [h]
  dsimp only
  have h1 : (xs.map D.str).all isPy = true := by rw [← isPyL_eq]; exact isPyL_map _ isPy_str xs
  have h2 : sortable ((xs.map D.str).map py) = true := by
    have e : (xs.map D.str).map py = xs.map PyData.str := by rw [List.map_map]; apply List.map_congr_left; intro x _; exact py_str x
    rw [e]
    unfold sortable alikeAllB
    have a1 : ((xs.map PyData.str).all fun d => (xs.map PyData.str).all fun e => PySem.W.alike d e) = true := by
      rw [List.all_eq_true]
      intro d hd
      rw [List.all_eq_true]
      intro e he
      obtain ⟨x, _, rfl⟩ := List.mem_map.mp hd
      obtain ⟨y, _, rfl⟩ := List.mem_map.mp he
      rw [PySem.W.alike]
    have a2 : (xs.map PyData.str).all otherB = true := by
      rw [List.all_eq_true]
      intro d hd
      obtain ⟨x, _, rfl⟩ := List.mem_map.mp hd
      rfl
    have a3 : ((xs.map PyData.str).all fun d => decide (d.depth ≤ 64)) = true := by
      rw [List.all_eq_true]
      intro d hd
      obtain ⟨x, _, rfl⟩ := List.mem_map.mp hd
      rw [PyData.depth]; rfl
    rw [a1, a2, a3, Bool.or_true]; rfl
  rw [h1, h2, Bool.and_self]
  rw [if_pos rfl, sortD_str]
/-- pairs (name, level), sorted -/
theorem sorted_pairs {n : Nat} {E : Lv n → D} {W' : Str × Lv n → D} {s : Sl} {xs : List (Str × Lv n)} (hE : Enc n E) (hn : n ≤ 10) (hW : (∀ p, py (W' p) = .tuple [.str p.1, py (E p.2)]) ∨ (∀ p, py (W' p) = .list [.str p.1, py (E p.2)])) (hi : ∀ p, isPy (W' p) = true) (hd : (xs.map Prod.fst).Nodup) (h : s.lst? = some (xs.map W')) : prim1 .sorted s = some (.new (.lst ((srtP xs).map W'))) := by
  unfold prim1
  dsimp only
  rw [h]
  dsimp only
  have h1 : (xs.map W').all isPy = true := by rw [← isPyL_eq]; exact isPyL_map _ hi xs
  have al : ∀ p q, PySem.W.alike (py (W' p)) (py (W' q)) = true := fun p q => by
    rcases hW with k | k
    · rw [k, k, PySem.W.alike, PySem.W.alikeAll, PySem.W.alikeAll, PySem.W.alikeAll, PySem.W.alike, hE.al]; rfl
    · rw [k, k, PySem.W.alike, PySem.W.alikeAll, PySem.W.alikeAll, PySem.W.alikeAll, PySem.W.alike, hE.al]; rfl
  have dp : ∀ p, (py (W' p)).depth ≤ 64 := fun p => by
    have := hE.dp p.2
    rcases hW with k | k
    · rw [k, PyData.depth, PyData.depthAll, PyData.depthAll, PyData.depthAll, PyData.depth]; omega
    · rw [k, PyData.depth, PyData.depthAll, PyData.depthAll, PyData.depthAll, PyData.depth]; omega
  have h2 : sortable ((xs.map W').map py) = true := by
    rw [List.map_map]
    unfold sortable alikeAllB
    have a1 : ((xs.map (py ∘ W')).all fun d => (xs.map (py ∘ W')).all fun e => PySem.W.alike d e) = true := by
      rw [List.all_eq_true]
      intro d hd
      rw [List.all_eq_true]
      intro e he
      obtain ⟨x, _, rfl⟩ := List.mem_map.mp hd
      obtain ⟨y, _, rfl⟩ := List.mem_map.mp he
      exact al x y
    have a2 : ((xs.map (py ∘ W')).all tupleB || (xs.map (py ∘ W')).all otherB) = true := by
      rw [Bool.or_eq_true]
      rcases hW with k | k
      · left
        rw [List.all_eq_true]
        intro d hd
        obtain ⟨x, _, rfl⟩ := List.mem_map.mp hd
        show tupleB (py (W' x)) = true
        rw [k]; rfl
      · right
        rw [List.all_eq_true]
        intro d hd
        obtain ⟨x, _, rfl⟩ := List.mem_map.mp hd
        show otherB (py (W' x)) = true
        rw [k]; rfl
    have a3 : ((xs.map (py ∘ W')).all fun d => decide (d.depth ≤ 64)) = true := by
      rw [List.all_eq_true]
      intro d hd
      obtain ⟨x, _, rfl⟩ := List.mem_map.mp hd
      exact decide_eq_true (dp x)
    rw [a1, a2, a3]; rfl
  rw [h1, h2, Bool.and_self]
  rw [if_pos rfl]
  congr 3
  unfold sortD srtP
  rw [List.map_mergeSort]
  intro a ha b hb
  show sle a.1 b.1 = PySem.W.dataLe false py (W' a) (W' b)
  rw [PySem.W.dataLe_eq]
  show sle a.1 b.1 = !PySem.W.dataLt (py (W' b)) (py (W' a))
  have key : PySem.W.dataLt (py (W' b)) (py (W' a)) = if PyData.eqv (.str b.1) (.str a.1) = true then (if PyData.eqv (py (E b.2)) (py (E a.2)) = true then false else PySem.W.dataLt (py (E b.2)) (py (E a.2))) else PySem.W.dataLt (.str b.1) (.str a.1) := by
    have := PySem.W.dataLt_pair (x := .str b.1) (x' := .str a.1) (y := py (E b.2)) (y' := py (E a.2)) (by rw [PySem.W.alike]) (hE.al _ _)
    rcases hW with k | k
    · rw [k, k]; exact this
    · rw [k, k, ← this]
      unfold PySem.W.dataLt
      rw [PySem.W.keyToks, PySem.W.keyToks, PySem.W.keyToks, PySem.W.keyToks]
  by_cases hab : a.1 = b.1
  · have : a = b := nodup_fst hd a ha b hb hab
    subst this
    have lt0 : PySem.W.dataLt (py (W' a)) (py (W' a)) = false := PyProof.Rows.lex_irrefl (O := PyProof.Rows.itemOrd) _
    rw [lt0]
    have := sle_total a.1 a.1
    simpa using this
  · rw [key, if_neg (by
      show ¬ (b.1 == a.1) = true
      rw [str_beq, decide_eq_true_eq]; exact fun z => hab z.symm)]
    rfl
theorem sorted_T {n : Nat} {s : Sl} {xs : List (Str × Lv n)} (hn : n ≤ 10) (hd : (xs.map Prod.fst).Nodup) (h : s.lst? = some (xs.map fun p => D.tup [.str p.1, encT n p.2])) : prim1 .sorted s = some (.new (.lst ((srtP xs).map fun p => D.tup [.str p.1, encT n p.2]))) :=
  sorted_pairs (enc_T n) hn (.inl fun p => by rw [py, pyL, pyL, pyL, py]) (fun p => by rw [isPy, isPyL, isPyL, isPyL, isPy_str, (enc_T n).ip]; rfl) hd h
theorem sorted_L {n u : Nat} {s : Sl} {xs : List (Str × Lv n)} (hn : n ≤ 10) (hd : (xs.map Prod.fst).Nodup) (h : s.lst? = some (xs.map fun p => D.lst u [.str p.1, encL u n p.2])) : prim1 .sorted s = some (.new (.lst ((srtP xs).map fun p => D.lst u [.str p.1, encL u n p.2]))) :=
  sorted_pairs (enc_L u n) hn (.inr fun p => by rw [py, pyL, pyL, pyL, py]) (fun p => by rw [isPy, isPyL, isPyL, isPyL, isPy_str, (enc_L u n).ip]; rfl) hd h
end MV
/-! K01Q: presentations. -/
namespace MV
open PySem
/-- an entry: a plain column, or a table column as it is handed in -/
abbrev It (n : Nat) : Type := Str ⊕ (D × Str × Lv n)
def itD {n : Nat} : It n → D
  | .inl x => .str x
  | .inr q => q.1
def itPl {n : Nat} : It n → Option Str
  | .inl x => some x
  | .inr _ => none
def itTb {n : Nat} : It n → Option (Str × Lv n)
  | .inl _ => none
  | .inr q => some q.2
def itNm {n : Nat} : It n → List Str
  | .inl x => [x]
  | .inr q => q.2.1 :: nms n q.2.2
def isPair (d : D) (x : Str) (e : D) : Prop := (∃ u, d = .lst u [.str x, e]) ∨ d = .tup [.str x, e]
def Pres : ∀ n, D → Lv n → Prop
  | 0, _, l => Empty.elim l
  | n + 1, d, l => ∃ its : List (It n), (Sl.d d).seq? = some (its.map itD) ∧ (its.filterMap itPl).Perm l.pl ∧ (its.filterMap itTb).Perm l.inn ∧ ∀ q, Sum.inr q ∈ its → ∃ e, isPair q.1 q.2.1 e ∧ Pres n e q.2.2
/-- as a kind keeps it -/
def Wf : ∀ n, Lv n → Prop
  | 0, l => Empty.elim l
  | n + 1, l => l.pl ≠ [] ∧ l.pl.Pairwise (fun a b => sle a b = true) ∧ l.inn.Pairwise (fun a b => sle a.1 b.1 = true) ∧ ∀ p ∈ l.inn, Wf n p.2
def nmL {n : Nat} (its : List (It n)) : List Str := (its.map itNm).flatten
theorem nmL_app {n : Nat} (a b : List (It n)) : nmL (a ++ b) = nmL a ++ nmL b := by unfold nmL; simp
theorem nmL_perm {n : Nat} : ∀ its : List (It n), (nmL its).Perm (its.filterMap itPl ++ low n (its.filterMap itTb))
  | [] => by unfold nmL low; simp
  | .inl x :: its => by
    have h := nmL_perm its
    have e1 : nmL (.inl x :: its) = x :: nmL its := by unfold nmL; rfl
    rw [e1, List.filterMap_cons_some (show itPl (n := n) (.inl x) = some x from rfl), List.filterMap_cons_none (show itTb (n := n) (.inl x) = none from rfl), List.cons_append]
    exact h.cons x
  | .inr q :: its => by
    have h := nmL_perm its
    have e1 : nmL (.inr q :: its) = (q.2.1 :: nms n q.2.2) ++ nmL its := by unfold nmL; rfl
    have e2 : low n (q.2 :: its.filterMap itTb) = (q.2.1 :: nms n q.2.2) ++ low n (its.filterMap itTb) := by unfold low; rfl
    rw [e1, List.filterMap_cons_none (show itPl (n := n) (.inr q) = none from rfl), List.filterMap_cons_some (show itTb (n := n) (.inr q) = some q.2 from rfl), e2]
    refine (List.Perm.append_left _ h).trans ?_
    rw [← List.append_assoc, ← List.append_assoc]
    exact List.Perm.append_right _ List.perm_append_comm
theorem low_perm {n : Nat} {a b : List (Str × Lv n)} (h : a.Perm b) : (low n a).Perm (low n b) := by
  unfold low
  exact List.Perm.flatten (h.map _)
theorem nmL_nms {n : Nat} {its : List (It n)} {l : Lv (n + 1)} (h1 : (its.filterMap itPl).Perm l.pl) (h2 : (its.filterMap itTb).Perm l.inn) : (nmL its).Perm (nms (n + 1) l) :=
  (nmL_perm its).trans (h1.append (low_perm h2))
/-- the names of the tables of a level are different -/
theorem inn_nodup {n : Nat} {q : List (Str × Lv n)} (h : (low n q).Nodup) : (q.map Prod.fst).Nodup := by
  unfold low at h
  induction q with
  | nil => exact List.nodup_nil
  | cons p q ih =>
    rw [List.map_cons, List.flatten_cons, List.nodup_append] at h
    rw [List.map_cons, List.nodup_cons]
    refine ⟨fun hm => ?_, ih h.2.1⟩
    obtain ⟨r, hr, e⟩ := List.mem_map.mp hm
    exact h.2.2 p.1 List.mem_cons_self r.1 (List.mem_flatten.mpr ⟨_, List.mem_map.mpr ⟨r, hr, rfl⟩, List.mem_cons_self⟩) e.symm
end MV
set_option maxHeartbeats 2000000
namespace MV
open PySem
local macro_rules | `(tactic| walk_at "ev") => `(tactic| try simp only [brK_open, ↓brU_true, ↓brU_false, wp_ret, wp_bnd, wp_bad, wp_some, wp_none, wp_var, slotK_d, slotK_own, wp_rd_d, wp_rd_new, getK_some, wp_rd_at, wp_frz_d, wp_frz_new, frzK_d, frzK_own, wp_frz_at, wp_sto_d, wp_sto_new, wp_sto_at, wp_setSl, ownK_lst, wp_ownLst, wp_tr, wp_noX,
  wv_cst, wv_glob, wv_ccon, wv_tup, wv_lst, wv_bin, wv_cmp, wv_isNone, wv_notNone, wv_not, wv_and, wv_or, wv_ite, wv_idx, wv_slc, wv_rev, wv_prim, wv_prim2, wv_joinc, wv_isin, wv_call, wv_callL, wv_pop, popK_lst, wv_attr, wv_prop, wv_comp, wv_mk, wv_rng0, wv_chain,
  we_nil, we_cons, wa_nil, wo_none, wo_some, ws_nil, ws_cons, seqK_next, seqK_ret, seqK_brk, seqK_cont, wst_expr, wst_asg, wst_asgT, wst_append, wst_insert, wst_setIx, wst_ret, wst_ite, wst_for, wst_brk, wst_cont, wst_pass, wst_bad,
  get_mk, set_mk, List.getElem?_cons_zero, List.getElem?_cons_succ, Option.join_some, Option.join_none, List.set_cons_zero, List.set_cons_succ,
  Option.bind_some, List.length_cons, List.length_nil, ix_0, ix_1, ix_2, ix_3, ix_4, ix_5, ix_6, ix_7, ix_8, ix_9, ix_10, ix_11, ix_12, ix_13, ix_m1, item_own, item_lst, item_tup, add_int, sub_int, cmp_le, cmp_lt, cmp_gt, cmp_ge, cmp_eqi, cmp_nei, wp_cmp_int, truth_bl, truth_int, out_d, out_new, out_at, outK_own, allOwn_nil, allOwn_cons, isO_own, true_and, and_true, List.contains_cons, List.contains_nil, Bool.or_false, Bool.false_or, Bool.or_self, Bool.true_or, Bool.or_true, wp_primlen_lst, wp_primlen_tup, intOf_int, ty_non_int, ty_non_bool, ty_non_str, ty_non_tuple, ty_non_list, tyOk_non, isNon_non, ty_bl_int, ty_bl_bool, ty_bl_str, ty_bl_tuple, ty_bl_list, tyOk_bl, isNon_bl, ty_int_int, ty_int_bool, ty_int_str, ty_int_tuple, ty_int_list, tyOk_int, isNon_int, ty_str_int, ty_str_bool, ty_str_str, ty_str_tuple, ty_str_list, tyOk_str, isNon_str, ty_tup_int, ty_tup_bool, ty_tup_str, ty_tup_tuple, ty_tup_list, tyOk_tup, isNon_tup, ty_lst_int, ty_lst_bool, ty_lst_str, ty_lst_tuple, ty_lst_list, tyOk_lst, isNon_lst, ty_obj_int, ty_obj_bool, ty_obj_str, ty_obj_tuple, ty_obj_list, tyOk_obj, isNon_obj, ty_own_list, ty_own_tuple, any1, any2, eq_self, decide_true, decide_false, endK_ret, objK_obj, wst_setFld, put_nil, put_ne, objOf_obj, objOf_own, fld_eq, fld_ne, ne_eq, Nat.reduceEqDiff, Nat.reduceBEq, Nat.zero_ne_one, Nat.one_ne_zero, not_false_eq_true, wp_cmp_obj, wp_len_obj, ansB_bl, tupK_tup, wp_items_obj,  Int.toNat_natCast, slW_d, slW_own, setFin_r, setFin_c, setFin_n, wp_items_lst, wp_items_tup, wp_items_str, bind_one, bind_two, toD_lst, wp_primlen_own, wp_primlen_at', lenK_lst, wp_primlen_str, pr_list, pr_tuple, pr_sorted, pr_max, pr_int, list_lst, list_tup, list_own, list_scr, tuple_lst, tuple_own, tuple_tup, int_int, wp_cmp_str, wp_cmp_bl, cmp_eqb, wa_ref', refK_own, wa_var, wa_cst, wa_lst, wa_tup, wa_idx, wa_bin, wa_call, wa_prim, wa_slc, wa_attr, wa_ite, wa_cmp, wa_comp, wa_rev, wa_isNone, wa_glob, wa_ccon, wa_prop, wl_ref', wl_newa, newK_new, wl_var, List.map_nil, List.map_cons, List.append_nil, decide_eq_true_eq, Bool.false_eq_true, ↓reduceIte, Bool.not_eq_true, Bool.not_true, Bool.not_false])
theorem item_pair {d e : D} {x : Str} (h : isPair d x e) : item (.d d) (.d (.int 0)) = some (.str x) ∧ item (.d d) (.d (.int 1)) = some e ∧ isTy (.d d) .str = false ∧ tyOk (.d d) = true := by
  rcases h with ⟨u, rfl⟩ | rfl <;> exact ⟨rfl, rfl, rfl, rfl⟩
theorem seq_items {d : D} {xs : List D} {I : Info} {P : Phi} {e : Env} {Q : List D → Env → Prop} (h : (Sl.d d).seq? = some xs) : Wp (itemsM I P d) e Q = Q xs e := by
  cases d <;> first | (cases h; done) | (cases h; exact wp_some)
theorem fresh {n : Nat} {its done rest : List (It n)} {it : It n} {seen ord : List Str} (hnd : (seen ++ nmL its).Nodup) (hl : (seen ++ nmL its).length ≤ 100) (hd : its = done ++ it :: rest) (ho : ord.Perm (nmL done)) : ((seen ++ ord) ++ itNm it).Nodup ∧ ((seen ++ ord) ++ itNm it).length ≤ 100 := by
  have e : nmL its = nmL done ++ (itNm it ++ nmL rest) := by
    rw [hd, nmL_app]; unfold nmL; rw [List.map_cons, List.flatten_cons]
  rw [e, ← List.append_assoc, ← List.append_assoc] at hnd hl
  have p : (((seen ++ ord) ++ itNm it) ++ nmL rest).Perm (((seen ++ nmL done) ++ itNm it) ++ nmL rest) := ((List.Perm.append_left seen ho).append_right _).append_right _
  have h1 := p.nodup_iff.mpr hnd
  have h2 := p.length_eq
  refine ⟨(List.nodup_append.mp h1).1, ?_⟩
  rw [List.length_append] at h2
  omega
theorem nmL_len {n : Nat} : ∀ done : List (It n), done.length ≤ (nmL done).length
  | [] => Nat.zero_le _
  | x :: d => by
    have e : nmL (x :: d) = itNm x ++ nmL d := rfl
    rw [e, List.length_append, List.length_cons]
    have h1 : 1 ≤ (itNm x).length := by cases x <;> (unfold itNm; simp)
    have := nmL_len d
    omega
theorem pl_inl {n : Nat} {done : List (It n)} {x : Str} : (done ++ [Sum.inl x] : List (It n)).filterMap itPl = done.filterMap itPl ++ [x] := by rw [List.filterMap_append]; rfl
theorem tb_inl {n : Nat} {done : List (It n)} {x : Str} : (done ++ [Sum.inl x] : List (It n)).filterMap itTb = done.filterMap itTb := by rw [List.filterMap_append]; show _ ++ [] = _; rw [List.append_nil]
theorem pl_inr {n : Nat} {done : List (It n)} {q : D × Str × Lv n} : (done ++ [Sum.inr q] : List (It n)).filterMap itPl = done.filterMap itPl := by rw [List.filterMap_append]; show _ ++ [] = _; rw [List.append_nil]
theorem tb_inr {n : Nat} {done : List (It n)} {q : D × Str × Lv n} : (done ++ [Sum.inr q] : List (It n)).filterMap itTb = done.filterMap itTb ++ [q.2] := by rw [List.filterMap_append]; rfl
theorem truth_own {xs : List D} : truth (.own (.lst xs)) = some !xs.isEmpty := rfl
theorem checked_c : ∀ (n N t : Nat) (d : D) (l : Lv n) (home : Str) (number : Nat) (seen : List Str), Pres n d l → Wf n l → (∀ x ∈ nms n l, Nm x) → (seen ++ nms n l).Nodup → number + n = 5 → (seen ++ nms n l).length ≤ 100 →
    C (N + n + 1) t 16 [.d d, .d (.str home), .d (.int number), .d (.tup (seen.map .str))] fun w _ => ∃ ord, ord.Perm (nms n l) ∧ w = .d (.tup [encT n l, .tup ((seen ++ ord).map .str)])
  | 0, N, t, d, l, home, number, seen, _, _, _, _, _, _ => Empty.elim l
  | n + 1, N, t, d, l, home, number, seen, hp, hw, hnm, hnd, hnum, hlen => by
    obtain ⟨its, h1, h2, h3, h4⟩ := hp
    obtain ⟨w1, w2, w3, w4⟩ := hw
    have hperm := nmL_nms h2 h3
    have hnd' : (seen ++ nmL its).Nodup := (List.Perm.append_left seen hperm).nodup_iff.mpr hnd
    have hlen' : (seen ++ nmL its).length ≤ 100 := by rw [(List.Perm.append_left seen hperm).length_eq]; exact hlen
    refine cs_of (n := N + n + 1) (d := f_checked_level) rfl rfl rfl ?_
    show Wp (execs _ _ _ _ f_checked_level.body) ⟨t, [some (.d d), some (.d (.str home)), some (.d (.int number)), some (.d (.tup (seen.map .str))), none, none, none, none, none, none]⟩ _
    unfold f_checked_level
    dsimp only
    walk_at "ev"
    rw [seq_items h1]
    refine wp_forMapN (fun done e => ∃ ord x y z v, ord.Perm (nmL done) ∧ e = ⟨t, [some (.d d), some (.d (.str home)), some (.d (.int number)), some (.d (.tup ((seen ++ ord).map .str))), some (.own (.lst ((done.filterMap itPl).map D.str))), some (.own (.lst ((done.filterMap itTb).map fun p => D.tup [.str p.1, encT n p.2]))), x, y, z, v]⟩) ⟨[], none, none, none, none, List.Perm.refl _, by rw [List.append_nil]; rfl⟩ ?_ ?_
    · rintro e ⟨ord, x, y, z, v, ho, rfl⟩
      walk_at "ev"
      have hne : ((its.filterMap itPl).map D.str).isEmpty = false := by
        cases q : its.filterMap itPl with
        | nil => rw [q] at h2; exact absurd h2.nil_eq.symm w1
        | cons a b => rfl
      rw [truth_own, hne]
      walk_at "ev"
      rw [sorted_strs (xs := its.filterMap itPl) rfl]
      walk_at "ev"
      have hin : ((its.filterMap itTb).map Prod.fst).Nodup := by
        have k1 : (low n l.inn).Nodup := by
          have := (List.nodup_append.mp hnd).2.1
          rw [nms] at this
          exact (List.nodup_append.mp this).2.1
        exact (h3.map Prod.fst).nodup_iff.mpr (inn_nodup k1)
      rw [sorted_T (by omega) hin rfl]
      walk_at "ev"
      refine ⟨ord, ho.trans hperm, ?_⟩
      have k1 : (low n l.inn).Nodup := by
        have := (List.nodup_append.mp hnd).2.1
        rw [nms] at this
        exact (List.nodup_append.mp this).2.1
      rw [srt_uniq h2 w2, srtP_uniq h3 (inn_nodup k1) w3]
      rfl
    · rintro done it rest e hd ⟨ord, x, y, z, v, ho, rfl⟩
      rw [bind_one]
      cases it with
      | inl nm =>
        show Wp _ (Env.set _ 6 (some (.d (.str nm)))) _
        obtain ⟨f1, f2⟩ := fresh hnd' hlen' hd ho
        have hmem : nm ∈ nms (n + 1) l := by
          refine hperm.mem_iff.mp ?_
          rw [hd, nmL_app]; unfold nmL; simp [itNm]
        have hnin : (seen ++ ord).contains nm = false := by
          rw [List.contains_eq_mem, decide_eq_false_iff_not]
          intro z
          exact (List.nodup_append.mp f1).2.2 nm z nm (by unfold itNm; simp) rfl
        walk_at "ev"
        refine wp_callD1 (valid_c (hnm nm hmem)) ?_
        walk_at "ev"
        rw [isin_strs (ys := seen ++ ord) rfl, hnin]
        walk_at "ev"
        rw [add_tup (by simp at f2 ⊢; omega)]
        walk_at "ev"
        refine ⟨fun _ => ?_, fun hh => absurd ?_ hh⟩
        · refine ⟨ord ++ [nm], some (.d (.str nm)), some (.d (.bl true)), some (.d (.str nm)), v, ?_, ?_⟩
          · rw [nmL_app]
            exact ho.append (by unfold nmL; exact List.Perm.refl _)
          · rw [pl_inl, tb_inl]
            simp only [List.map_append, List.map_cons, List.map_nil, List.append_assoc]
        · have a := ho.length_eq
          have b := (nmL_perm done).length_eq
          simp only [List.length_append, List.length_map] at *
          omega
      | inr q =>
        obtain ⟨qd, nm, lv⟩ := q
        obtain ⟨e, hpair, hpr⟩ := h4 (qd, nm, lv) (by rw [hd]; simp)
        obtain ⟨i1, i2, i3, i4⟩ := item_pair hpair
        obtain ⟨f1, f2⟩ := fresh hnd' hlen' hd ho
        have htb : (nm, lv) ∈ l.inn := h3.mem_iff.mp (List.mem_filterMap.mpr ⟨.inr (qd, nm, lv), by rw [hd]; simp, rfl⟩)
        have hsub : ∀ x ∈ nm :: nms n lv, x ∈ nms (n + 1) l := fun x hx => by
          rw [nms]
          exact List.mem_append_right _ (List.mem_flatten.mpr ⟨_, List.mem_map.mpr ⟨_, htb, rfl⟩, hx⟩)
        have hnin : (seen ++ ord).contains nm = false := by
          rw [List.contains_eq_mem, decide_eq_false_iff_not]
          intro z
          exact (List.nodup_append.mp f1).2.2 nm z nm (by unfold itNm; simp) rfl
        have hn1 : 1 ≤ n := by
          cases n with
          | zero => exact Empty.elim lv
          | succ n => omega
        show Wp _ (Env.set _ 6 (some (.d qd))) _
        walk_at "ev"
        rw [i4, i3]
        walk_at "ev"
        rw [i1]
        walk_at "ev"
        refine wp_callD1 (valid_c (hnm nm (hsub nm List.mem_cons_self))) ?_
        walk_at "ev"
        rw [isin_strs (ys := seen ++ ord) rfl, hnin]
        walk_at "ev"
        rw [add_tup (by simp at f2 ⊢; omega)]
        walk_at "ev"
        rw [glob2]
        walk_at "ev"
        refine ⟨fun hh => absurd hh (by omega), fun _ => ?_⟩
        rw [i2]
        walk_at "ev"
        have es : (seen ++ ord).map D.str ++ [D.str nm] = (seen ++ (ord ++ [nm])).map D.str := by rw [← List.append_assoc, List.map_append (l₂ := [nm])]; rfl
        rw [es]
        have en : ((number : Int) + 1) = ((number + 1 : Nat) : Int) := by omega
        rw [en]
        have hnd2 : ((seen ++ (ord ++ [nm])) ++ nms n lv).Nodup := by
          have e : (seen ++ (ord ++ [nm])) ++ nms n lv = (seen ++ ord) ++ itNm (.inr (qd, nm, lv)) := by unfold itNm; simp
          rw [e]; exact f1
        have hl2 : ((seen ++ (ord ++ [nm])) ++ nms n lv).length ≤ 100 := by
          have e : (seen ++ (ord ++ [nm])) ++ nms n lv = (seen ++ ord) ++ itNm (.inr (qd, nm, lv)) := by unfold itNm; simp
          rw [e]; exact f2
        refine wp_callS [e, .str nm, .int ((number + 1 : Nat) : Int), .tup ((seen ++ (ord ++ [nm])).map D.str)] (checked_c n N t e lv nm (number + 1) (seen ++ (ord ++ [nm])) hpr (w4 _ htb) (fun x hx => hnm x (hsub x (List.mem_cons_of_mem _ hx))) hnd2 (by omega) hl2) ?_
        rintro w fin ⟨ord2, ho2, rfl⟩
        walk_at "ev"
        refine ⟨fun _ => ?_, fun hh => absurd ?_ hh⟩
        · refine ⟨ord ++ (nm :: ord2), some (.d qd), some (.d (.bl false)), some (.d (.str nm)), some (.d (encT n lv)), ?_, ?_⟩
          · rw [nmL_app]
            refine ho.append ?_
            unfold nmL itNm
            simp only [List.map_cons, List.map_nil, List.flatten_cons, List.flatten_nil, List.append_nil]
            exact ho2.cons nm
          · rw [pl_inr, tb_inr]
            simp only [List.map_append, List.map_cons, List.map_nil, List.append_assoc, List.cons_append, List.nil_append]
        · have a := ho.length_eq
          have b : (done.filterMap itTb).length ≤ done.length := List.length_filterMap_le ..
          have c := nmL_len done
          simp only [List.length_append, List.length_map] at *
          omega
end MV
set_option maxHeartbeats 2000000
namespace MV
open PySem
local macro_rules | `(tactic| walk_at "ev") => `(tactic| try simp only [brK_open, ↓brU_true, ↓brU_false, wp_ret, wp_bnd, wp_bad, wp_some, wp_none, wp_var, slotK_d, slotK_own, wp_rd_d, wp_rd_new, getK_some, wp_rd_at, wp_frz_d, wp_frz_new, frzK_d, frzK_own, wp_frz_at, wp_sto_d, wp_sto_new, wp_sto_at, wp_setSl, ownK_lst, wp_ownLst, wp_tr, wp_noX,
  wv_cst, wv_glob, wv_ccon, wv_tup, wv_lst, wv_bin, wv_cmp, wv_isNone, wv_notNone, wv_not, wv_and, wv_or, wv_ite, wv_idx, wv_slc, wv_rev, wv_prim, wv_prim2, wv_joinc, wv_isin, wv_call, wv_callL, wv_pop, popK_lst, wv_attr, wv_prop, wv_comp, wv_mk, wv_rng0, wv_chain,
  we_nil, we_cons, wa_nil, wo_none, wo_some, ws_nil, ws_cons, seqK_next, seqK_ret, seqK_brk, seqK_cont, wst_expr, wst_asg, wst_asgT, wst_append, wst_insert, wst_setIx, wst_ret, wst_ite, wst_for, wst_brk, wst_cont, wst_pass, wst_bad,
  get_mk, set_mk, List.getElem?_cons_zero, List.getElem?_cons_succ, Option.join_some, Option.join_none, List.set_cons_zero, List.set_cons_succ,
  Option.bind_some, List.length_cons, List.length_nil, ix_0, ix_1, ix_2, ix_3, ix_4, ix_5, ix_6, ix_7, ix_8, ix_9, ix_10, ix_11, ix_12, ix_13, ix_m1, item_own, item_lst, item_tup, add_int, sub_int, cmp_le, cmp_lt, cmp_gt, cmp_ge, cmp_eqi, cmp_nei, wp_cmp_int, truth_bl, truth_int, out_d, out_new, out_at, outK_own, allOwn_nil, allOwn_cons, isO_own, true_and, and_true, List.contains_cons, List.contains_nil, Bool.or_false, Bool.false_or, Bool.or_self, Bool.true_or, Bool.or_true, wp_primlen_lst, wp_primlen_tup, intOf_int, ty_non_int, ty_non_bool, ty_non_str, ty_non_tuple, ty_non_list, tyOk_non, isNon_non, ty_bl_int, ty_bl_bool, ty_bl_str, ty_bl_tuple, ty_bl_list, tyOk_bl, isNon_bl, ty_int_int, ty_int_bool, ty_int_str, ty_int_tuple, ty_int_list, tyOk_int, isNon_int, ty_str_int, ty_str_bool, ty_str_str, ty_str_tuple, ty_str_list, tyOk_str, isNon_str, ty_tup_int, ty_tup_bool, ty_tup_str, ty_tup_tuple, ty_tup_list, tyOk_tup, isNon_tup, ty_lst_int, ty_lst_bool, ty_lst_str, ty_lst_tuple, ty_lst_list, tyOk_lst, isNon_lst, ty_obj_int, ty_obj_bool, ty_obj_str, ty_obj_tuple, ty_obj_list, tyOk_obj, isNon_obj, ty_own_list, ty_own_tuple, any1, any2, eq_self, decide_true, decide_false, endK_ret, objK_obj, wst_setFld, put_nil, put_ne, objOf_obj, objOf_own, fld_eq, fld_ne, ne_eq, Nat.reduceEqDiff, Nat.reduceBEq, Nat.zero_ne_one, Nat.one_ne_zero, not_false_eq_true, wp_cmp_obj, wp_len_obj, ansB_bl, tupK_tup, wp_items_obj,  Int.toNat_natCast, slW_d, slW_own, setFin_r, setFin_c, setFin_n, wp_items_lst, wp_items_tup, wp_items_str, bind_one, bind_two, toD_lst, wp_primlen_own, wp_primlen_at', lenK_lst, wp_primlen_str, pr_list, pr_tuple, pr_sorted, pr_max, pr_int, list_lst, list_tup, list_own, list_scr, tuple_lst, tuple_own, tuple_tup, int_int, wp_cmp_str, wp_cmp_bl, cmp_eqb, wa_ref', refK_own, wa_var, wa_cst, wa_lst, wa_tup, wa_idx, wa_bin, wa_call, wa_prim, wa_slc, wa_attr, wa_ite, wa_cmp, wa_comp, wa_rev, wa_isNone, wa_glob, wa_ccon, wa_prop, wl_ref', wl_newa, newK_new, wl_var, List.map_nil, List.map_cons, List.append_nil, decide_eq_true_eq, Bool.false_eq_true, ↓reduceIte, Bool.not_eq_true, Bool.not_true, Bool.not_false])
/-- the kind of a level -/
def kindXs (l : Lv 4) : List D := [encT 4 l, .str (txt 4 l), .tup ((nms 4 l).map .str), .tup (l.pl.map .str), .tup (l.inn.map fun p => .str p.1)]
def kindD (l : Lv 4) : D := .obj 0 [0, 1, 2, 3, 4] (kindXs l)
/-- a level that makes a kind -/
structure Gd (l : Lv 4) : Prop where
  wf : Wf 4 l
  nm : ∀ x ∈ nms 4 l, Nm x
  nd : (nms 4 l).Nodup
  le : (nms 4 l).length ≤ 12
theorem Gd.sm {l : Lv 4} (h : Gd l) : Sm 4 l := ⟨by have := h.le; omega, h.nm⟩
theorem lt1000 {k : Nat} {a : Prop} (h : k < 1000) (ha : a) : brU (k < 1000) a False := ⟨fun _ => ha, fun n => absurd h n⟩
theorem init_c {N t : Nat} {d : D} {l : Lv 4} (hp : Pres 4 d l) (h : Gd l) : C (N + 6) t 0 [.own (.obj 0 [] []), .d d] fun w fin => w = .d .non ∧ ∃ r, fin = some (.own (.obj 0 [0, 1, 2, 3, 4] (kindXs l))) :: r := by
  refine cs_of (n := N + 5) (d := f_KindD_initD) rfl rfl rfl ?_
  show Wp (execs _ _ _ _ f_KindD_initD.body) ⟨t, [some (.own (.obj 0 [] [])), some (.d d), none, none, none]⟩ _
  unfold f_KindD_initD
  dsimp only
  walk_at "ev"
  refine wp_callS [d, .str "", .int ((1 : Nat) : Int), .tup (([] : List Str).map D.str)] (checked_c 4 N t d l "" 1 [] hp h.wf h.nm (by rw [List.nil_append]; exact h.nd) rfl (by rw [List.nil_append]; have := h.le; omega)) ?_
  rintro w fin ⟨ord, ho, rfl⟩
  walk_at "ev"
  rw [glob3]
  walk_at "ev"
  refine ⟨fun hh => absurd hh (by rw [List.length_map, List.nil_append, ho.length_eq]; have := h.le; omega), fun _ => ?_⟩
  walk_at "ev"
  refine lt1000 (by decide) ?_
  refine wp_callD1 (text_c 4 (N + 1) t l h.sm) ?_
  walk_at "ev"
  refine lt1000 (by decide) ?_
  refine wp_callS1 (names_t 4 (N + 1) t l h.sm) ?_
  walk_at "ev"
  refine lt1000 (by decide) ?_
  have e0 : item (.d (encT 4 l)) (.d (.int 0)) = some (.tup (l.pl.map .str)) := rfl
  have e1 : item (.d (encT 4 l)) (.d (.int 1)) = some (.tup (l.inn.map fun p => .tup [.str p.1, encT 3 p.2])) := rfl
  rw [e0]
  walk_at "ev"
  refine lt1000 (by decide) ?_
  refine wp_comp_mapF (ys := l.inn) (f := fun p => .tup [.str p.1, encT 3 p.2]) (g := fun p => .str p.1) ?_
  walk_at "ev"
  rw [e1]
  walk_at "ev"
  have hll : l.pl.length + l.inn.length ≤ (nms 4 l).length := h.sm.len
  refine ⟨by have := h.sm.1; omega, fun p hp => ?_, ?_⟩
  · walk_at "ev"
  · walk_at "ev"
    refine lt1000 (by decide) ?_
    exact ⟨rfl, _, rfl⟩
theorem wp_kind {N t : Nat} {d : D} {l : Lv 4} (hp : Pres 4 d l) (h : Gd l) {sl : List (Option Sl)} {Q : W → Env → Prop} (k : Q (.new (.obj 0 [0, 1, 2, 3, 4] (kindXs l))) ⟨t, sl⟩) : Wp (makeM (callF info fns 0 (N + 6)) 0 0 [.d d]) ⟨t, sl⟩ Q :=
  wp_make [d] (init_c hp h) k
/-! ### what a kind answers -/
theorem eqm0 : info.eqm 0 = some 1 := rfl
theorem lenm0 : info.lenm 0 = some 2 := rfl
theorem iterm0 : info.iterm 0 = some 3 := rfl
theorem meth0 : info.meth 0 0 = some 23 := rfl
theorem init0 : info.init 0 = some 0 := rfl
theorem join_ok {s : Str} (hs : sOk s) : ∀ {ys : List Str}, (∀ y ∈ ys, sOk y) → sOk (Txt.join s ys) := fun {ys} h => by
  rw [TL.join_eq]
  induction ys with
  | nil => show PyData.strOk Str.empty = true; decide +kernel
  | cons y ys ih =>
    cases ys with
    | nil => exact h y List.mem_cons_self
    | cons z r => exact ((h y List.mem_cons_self).app hs).app (ih fun w hw => h w (List.mem_cons_of_mem _ hw))
theorem txt_sok : ∀ n (l : Lv n), (∀ x ∈ nms n l, sOk x) → sOk (txt n l)
  | 0, l, _ => Empty.elim l
  | n + 1, l, h => by
    rw [txt]
    refine join_ok (by show PyData.strOk _ = true; decide +kernel) fun y hy => ?_
    rcases List.mem_append.mp hy with q | q
    · exact h y (by rw [nms]; exact List.mem_append_left _ q)
    · obtain ⟨p, hp, rfl⟩ := List.mem_map.mp q
      have hs : ∀ x ∈ p.1 :: nms n p.2, sOk x := fun x hx => h x (by
        rw [nms]
        exact List.mem_append_right _ (List.mem_flatten.mpr ⟨_, List.mem_map.mpr ⟨p, hp, rfl⟩, hx⟩))
      exact (((hs p.1 List.mem_cons_self).app (by show PyData.strOk _ = true; decide +kernel)).app (txt_sok n p.2 fun x hx => hs x (List.mem_cons_of_mem _ hx))).app (by show PyData.strOk _ = true; decide +kernel)
theorem txt_ok {l : Lv 4} (h : Gd l) : sOk (txt 4 l) := txt_sok 4 l fun x hx => (h.nm x hx).ok
theorem keq_c {N t : Nat} {a b : Lv 4} (ha : Gd a) (hb : Gd b) : C (N + 1) t 1 [.d (kindD a), .d (kindD b)] fun w _ => w = .d (.bl (decide (txt 4 a = txt 4 b))) := by
  refine cs_of (n := N) (d := f_KindD_eqD) rfl rfl rfl ?_
  show Wp (execs _ _ _ _ f_KindD_eqD.body) ⟨t, [some (.d (kindD a)), some (.d (kindD b))]⟩ _
  unfold f_KindD_eqD kindD kindXs
  dsimp only
  walk_at "ev"
  have e : isTy (.d (.obj 0 [0, 1, 2, 3, 4] [encT 4 b, .str (txt 4 b), .tup ((nms 4 b).map .str), .tup (b.pl.map .str), .tup (b.inn.map fun p => .str p.1)])) (.cls 0 [0]) = true := rfl
  rw [e]
  walk_at "ev"
  rw [cmp_eqs (txt_ok ha) (txt_ok hb)]
  walk_at "ev"
theorem wp_keq {N : Nat} {e : Env} {Q : W → Env → Prop} {a b : Lv 4} (ha : Gd a) (hb : Gd b) (k : Q (.d (.bl (decide (txt 4 a = txt 4 b)))) e) : Wp (cmpM info (callF info fns 0 (N + 1)) .eq (.d (kindD a)) (.d (kindD b))) e Q := by
  unfold kindD
  rw [wp_cmp_obj, eqm0, wp_some]
  refine wp_callD2 (keq_c ha hb) ?_
  rw [ansB_bl]
  exact k
theorem klen_c {N t : Nat} {a : Lv 4} : C (N + 1) t 2 [.d (kindD a)] fun w _ => w = .d (.int ((nms 4 a).length : Nat)) := by
  refine cs_of (n := N) (d := f_KindD_lenD) rfl rfl rfl ?_
  show Wp (execs _ _ _ _ f_KindD_lenD.body) ⟨t, [some (.d (kindD a))]⟩ _
  unfold f_KindD_lenD kindD kindXs
  dsimp only
  walk_at "ev"
  rw [List.length_map]
theorem kiter_c {N t : Nat} {a : Lv 4} : C (N + 1) t 3 [.d (kindD a)] fun w _ => w = .d (.tup ((nms 4 a).map .str)) := by
  refine cs_of (n := N) (d := f_KindD_iterD) rfl rfl rfl ?_
  show Wp (execs _ _ _ _ f_KindD_iterD.body) ⟨t, [some (.d (kindD a))]⟩ _
  unfold f_KindD_iterD kindD kindXs
  dsimp only
  walk_at "ev"
theorem klev_c {N t : Nat} {a : Lv 4} : C (N + 5) t 23 [.d (kindD a)] fun w _ => w = .d (.int (dep 4 a : Nat)) := by
  refine cs_of (n := N + 4) (d := f_Kind_levels) rfl rfl rfl ?_
  show Wp (execs _ _ _ _ f_Kind_levels.body) ⟨t, [some (.d (kindD a))]⟩ _
  unfold f_Kind_levels kindD kindXs
  dsimp only
  walk_at "ev"
  refine wp_callD1 (depth_t 4 N t a) ?_
  walk_at "ev"
end MV
set_option maxHeartbeats 2000000
namespace MV
open PySem
local macro_rules | `(tactic| walk_at "ev") => `(tactic| try simp only [brK_open, ↓brU_true, ↓brU_false, wp_ret, wp_bnd, wp_bad, wp_some, wp_none, wp_var, slotK_d, slotK_own, wp_rd_d, wp_rd_new, getK_some, wp_rd_at, wp_frz_d, wp_frz_new, frzK_d, frzK_own, wp_frz_at, wp_sto_d, wp_sto_new, wp_sto_at, wp_setSl, ownK_lst, wp_ownLst, wp_tr, wp_noX,
  wv_cst, wv_glob, wv_ccon, wv_tup, wv_lst, wv_bin, wv_cmp, wv_isNone, wv_notNone, wv_not, wv_and, wv_or, wv_ite, wv_idx, wv_slc, wv_rev, wv_prim, wv_prim2, wv_joinc, wv_isin, wv_call, wv_callL, wv_pop, popK_lst, wv_attr, wv_prop, wv_comp, wv_mk, wv_rng0, wv_chain,
  we_nil, we_cons, wa_nil, wo_none, wo_some, ws_nil, ws_cons, seqK_next, seqK_ret, seqK_brk, seqK_cont, wst_expr, wst_asg, wst_asgT, wst_append, wst_insert, wst_setIx, wst_ret, wst_ite, wst_for, wst_brk, wst_cont, wst_pass, wst_bad,
  get_mk, set_mk, List.getElem?_cons_zero, List.getElem?_cons_succ, Option.join_some, Option.join_none, List.set_cons_zero, List.set_cons_succ,
  Option.bind_some, List.length_cons, List.length_nil, ix_0, ix_1, ix_2, ix_3, ix_4, ix_5, ix_6, ix_7, ix_8, ix_9, ix_10, ix_11, ix_12, ix_13, ix_m1, item_own, item_lst, item_tup, add_int, sub_int, cmp_le, cmp_lt, cmp_gt, cmp_ge, cmp_eqi, cmp_nei, wp_cmp_int, truth_bl, truth_int, out_d, out_new, out_at, outK_own, allOwn_nil, allOwn_cons, isO_own, true_and, and_true, List.contains_cons, List.contains_nil, Bool.or_false, Bool.false_or, Bool.or_self, Bool.true_or, Bool.or_true, wp_primlen_lst, wp_primlen_tup, intOf_int, ty_non_int, ty_non_bool, ty_non_str, ty_non_tuple, ty_non_list, tyOk_non, isNon_non, ty_bl_int, ty_bl_bool, ty_bl_str, ty_bl_tuple, ty_bl_list, tyOk_bl, isNon_bl, ty_int_int, ty_int_bool, ty_int_str, ty_int_tuple, ty_int_list, tyOk_int, isNon_int, ty_str_int, ty_str_bool, ty_str_str, ty_str_tuple, ty_str_list, tyOk_str, isNon_str, ty_tup_int, ty_tup_bool, ty_tup_str, ty_tup_tuple, ty_tup_list, tyOk_tup, isNon_tup, ty_lst_int, ty_lst_bool, ty_lst_str, ty_lst_tuple, ty_lst_list, tyOk_lst, isNon_lst, ty_obj_int, ty_obj_bool, ty_obj_str, ty_obj_tuple, ty_obj_list, tyOk_obj, isNon_obj, ty_own_list, ty_own_tuple, any1, any2, eq_self, decide_true, decide_false, endK_ret, objK_obj, wst_setFld, put_nil, put_ne, objOf_obj, objOf_own, fld_eq, fld_ne, ne_eq, Nat.reduceEqDiff, Nat.reduceBEq, Nat.zero_ne_one, Nat.one_ne_zero, not_false_eq_true, wp_cmp_obj, wp_len_obj, ansB_bl, tupK_tup, wp_items_obj,  Int.toNat_natCast, slW_d, slW_own, setFin_r, setFin_c, setFin_n, wp_items_lst, wp_items_tup, wp_items_str, bind_one, bind_two, toD_lst, wp_primlen_own, wp_primlen_at', lenK_lst, wp_primlen_str, pr_list, pr_tuple, pr_sorted, pr_max, pr_int, list_lst, list_tup, list_own, list_scr, tuple_lst, tuple_own, tuple_tup, int_int, wp_cmp_str, wp_cmp_bl, cmp_eqb, wa_ref', refK_own, wa_var, wa_cst, wa_lst, wa_tup, wa_idx, wa_bin, wa_call, wa_prim, wa_slc, wa_attr, wa_ite, wa_cmp, wa_comp, wa_rev, wa_isNone, wa_glob, wa_ccon, wa_prop, wl_ref', wl_newa, newK_new, wl_var, List.map_nil, List.map_cons, List.append_nil, decide_eq_true_eq, Bool.false_eq_true, ↓reduceIte, Bool.not_eq_true, Bool.not_true, Bool.not_false])
theorem eqvL_strs {xs : List Str} (h : ∀ x ∈ xs, sOk x) : EqvL (xs.map D.str) (xs.map D.str) := by
  induction xs with
  | nil => unfold EqvL; trivial
  | cons x xs ih =>
    rw [List.map_cons]
    unfold EqvL Eqv
    exact ⟨⟨rfl, h x List.mem_cons_self⟩, ih fun y hy => h y (List.mem_cons_of_mem _ hy)⟩
theorem depL_strs {xs : List Str} : depthL (xs.map D.str) = 0 := by
  induction xs with
  | nil => rfl
  | cons x xs ih =>
    have e : depthD (.str x) = 0 := by unfold depthD; rfl
    rw [List.map_cons, depthL, ih, e]; rfl
theorem same_tup {N t : Nat} {xs : List Str} (h : ∀ x ∈ xs, sOk x) (hl : xs.length < 1000000) : C (N + 2) t 14 [.d (.tup (xs.map D.str)), .d (.tup (xs.map D.str))] fun w _ => w = .d (.bl true) :=
  same_c 1 N t _ _ (by unfold Eqv; exact ⟨eqvL_strs h, by rw [List.length_map]; exact hl⟩) (by unfold depthD; rw [depL_strs]; exact Nat.le_refl _)
theorem same_lst {N t u v : Nat} {xs : List Str} (h : ∀ x ∈ xs, sOk x) (hl : xs.length < 1000000) : C (N + 2) t 14 [.d (.lst u (xs.map D.str)), .d (.lst v (xs.map D.str))] fun w _ => w = .d (.bl true) :=
  same_c 1 N t _ _ (by unfold Eqv; exact ⟨eqvL_strs h, by rw [List.length_map]; exact hl⟩) (by unfold depthD; rw [depL_strs]; exact Nat.le_refl _)
theorem same_str {N t : Nat} {x : Str} (h : sOk x) : C (N + 1) t 14 [.d (.str x), .d (.str x)] fun w _ => w = .d (.bl true) := same_c 0 N t _ _ (by unfold Eqv; exact ⟨rfl, h⟩) (by unfold depthD; exact Nat.le_refl _)
theorem same_int {N t : Nat} {x : Int} : C (N + 1) t 14 [.d (.int x), .d (.int x)] fun w _ => w = .d (.bl true) := same_c 0 N t _ _ (by unfold Eqv; rfl) (by unfold depthD; exact Nat.le_refl _)
theorem same_bl {N t : Nat} {x : Bool} : C (N + 1) t 14 [.d (.bl x), .d (.bl x)] fun w _ => w = .d (.bl true) := same_c 0 N t _ _ (by unfold Eqv; rfl) (by unfold depthD; exact Nat.le_refl _)
theorem encL_4 {v u : Nat} {l : Lv 4} : encM v u 4 l = .lst v [.lst u (l.pl.map .str), .lst u (l.inn.map fun p => .lst u [.str p.1, encL u 3 p.2])] := rfl
theorem kind_is_c {N t v u : Nat} {l : Lv 4} (h : Gd l) : C (N + 7) t 8 [.d (kindD l), .d (encM v u 4 l)] fun w _ => w = .d (.bl true) := by
  have hs := h.sm
  have nok : ∀ x ∈ nms 4 l, sOk x := fun x hx => (h.nm x hx).ok
  have h12 := h.le
  have pok : ∀ x ∈ l.pl, sOk x := fun x hx => (hs.pl hx).ok
  have hll : l.pl.length + l.inn.length ≤ (nms 4 l).length := hs.len
  have iok : ∀ x ∈ l.inn.map Prod.fst, sOk x := fun x hx => by
    obtain ⟨p, hp, rfl⟩ := List.mem_map.mp hx
    exact (hs.inn hp).2.1.ok
  refine cs_of (n := N + 6) (d := f__law_kind_is) rfl rfl rfl ?_
  show Wp (execs _ _ _ _ f__law_kind_is.body) ⟨t, [some (.d (kindD l)), some (.d (encM v u 4 l)), none, none, none]⟩ _
  unfold f__law_kind_is
  dsimp only
  walk_at "ev"
  refine wp_callS1 (all_c 4 (N + 2) t v u l hs) ?_
  unfold kindD kindXs
  walk_at "ev"
  refine wp_callD1 (ltext_c 4 (N + 2) t v u l hs) ?_
  walk_at "ev"
  refine wp_callD2 (same_str (txt_ok h)) ?_
  walk_at "ev"
  refine wp_callD2 (same_tup nok (by omega)) ?_
  rw [encL_4]
  walk_at "ev"
  refine wp_callD2 (same_tup pok (by omega)) ?_
  walk_at "ev"
  refine wp_comp_mapF (ys := l.inn) (f := fun p => .lst u [.str p.1, encL u 3 p.2]) (g := fun p => .str p.1) ?_
  walk_at "ev"
  refine ⟨by omega, fun p hp => ?_, ?_⟩
  · walk_at "ev"
  walk_at "ev"
  have e1 : (l.inn.map fun p => D.str p.1) = (l.inn.map Prod.fst).map D.str := by rw [List.map_map]; rfl
  rw [e1]
  refine wp_callD2 (same_tup iok (by rw [List.length_map]; omega)) ?_
  walk_at "ev"
  rw [meth0]
  walk_at "ev"
  rw [← e1]
  refine wp_callD1 (klev_c (N := N + 1) (a := l)) ?_
  walk_at "ev"
  refine wp_callD1 (ldepth_c 4 (N + 2) t v u l hs) ?_
  walk_at "ev"
  refine wp_callD2 same_int ?_
  walk_at "ev"
  rw [lenm0]
  walk_at "ev"
  refine wp_callD1 (klen_c (a := l)) ?_
  walk_at "ev"
  rw [ansN_nat (by omega)]
  walk_at "ev"
  rw [List.length_map]
  refine wp_callD2 same_int ?_
  walk_at "ev"
  refine wp_comp_mapF (ys := nms 4 l) (f := D.str) (g := D.str) ?_
  walk_at "ev"
  rw [iterm0]
  walk_at "ev"
  refine wp_callD1 (kiter_c (a := l)) ?_
  walk_at "ev"
  refine ⟨by omega, fun _ _ => trivial, ?_⟩
  refine wp_callD2 (same_lst nok (by omega)) ?_
  walk_at "ev"
end MV
/-! K01W: places in a level. -/
namespace MV
open PySem
/-- a level inside a level, and what becomes of the whole when it is replaced -/
inductive WPth : (n : Nat) → Lv n → List Str → (m : Nat) → Lv m → (Lv m → Lv n) → Prop
  | nil {n : Nat} {l : Lv n} : WPth n l [] n l id
  | cons {n m : Nat} {l : Lv (n + 1)} {a b : List (Str × Lv n)} {p : Str × Lv n} {path : List Str} {s : Lv m} {f : Lv m → Lv n} (h : l.inn = a ++ p :: b) (t : WPth n p.2 path m s f) : WPth (n + 1) l (p.1 :: path) m s (fun s' => ((l.pl, a ++ (p.1, f s') :: b) : List Str × List (Str × Lv n)))
theorem WPth.len {n m : Nat} {l : Lv n} {path : List Str} {s : Lv m} {f : Lv m → Lv n} (h : WPth n l path m s f) : path.length + m = n := by
  induction h with
  | nil => simp
  | cons _ _ ih => rw [List.length_cons]; omega
theorem WPth.wf {n m : Nat} {l : Lv n} {path : List Str} {s : Lv m} {f : Lv m → Lv n} (h : WPth n l path m s f) (w : Wf n l) : Wf m s ∧ ∀ s', Wf m s' → Wf n (f s') := by
  induction h with
  | nil => exact ⟨w, fun _ h => h⟩
  | @cons n m l a b p path s f h t ih =>
    obtain ⟨w1, w2, w3, w4⟩ := w
    obtain ⟨i1, i2⟩ := ih (w4 p (by rw [h]; simp))
    refine ⟨i1, fun s' hs' => ⟨w1, w2, ?_, fun q hq => ?_⟩⟩
    · have e : ∀ (x : Str × Lv n), x.1 = p.1 → List.Pairwise (fun a b : Str × Lv n => sle a.1 b.1 = true) (a ++ x :: b) := fun x hx => by
        rw [h, List.pairwise_append] at w3
        rw [List.pairwise_append]
        refine ⟨w3.1, ?_, fun y hy z hz => ?_⟩
        · have := w3.2.1
          rw [List.pairwise_cons] at this ⊢
          exact ⟨fun z hz => by rw [hx]; exact this.1 z hz, this.2⟩
        · rcases List.mem_cons.mp hz with rfl | hz
          · rw [hx]; exact w3.2.2 y hy p List.mem_cons_self
          · exact w3.2.2 y hy z (List.mem_cons_of_mem _ hz)
      exact e (p.1, f s') rfl
    · have hq : q ∈ a ++ (p.1, f s') :: b := hq
      rcases List.mem_append.mp hq with hq | hq
      · exact w4 q (by rw [h]; exact List.mem_append_left _ hq)
      · rcases List.mem_cons.mp hq with rfl | hq
        · exact i2 s' hs'
        · exact w4 q (by rw [h]; exact List.mem_append_right _ (List.mem_cons_of_mem _ hq))
theorem nms_mid {n : Nat} (pl : List Str) (a b : List (Str × Lv n)) (p : Str × Lv n) : nms (n + 1) ((pl, a ++ p :: b) : List Str × List (Str × Lv n)) = pl ++ (low n a ++ ((p.1 :: nms n p.2) ++ low n b)) := by
  have e : nms (n + 1) ((pl, a ++ p :: b) : List Str × List (Str × Lv n)) = pl ++ low n (a ++ p :: b) := rfl
  rw [e, low_app]
  rfl
theorem WPth.nms {n m : Nat} {l : Lv n} {path : List Str} {s : Lv m} {f : Lv m → Lv n} (h : WPth n l path m s f) : (∀ x ∈ nms m s, x ∈ MV.nms n l) ∧ ∀ s' ex, (MV.nms m s').Perm (MV.nms m s ++ ex) → (MV.nms n (f s')).Perm (MV.nms n l ++ ex) := by
  induction h with
  | nil => exact ⟨fun _ h => h, fun _ _ h => h⟩
  | @cons n m l a b p path s f h t ih =>
    have el : MV.nms (n + 1) l = l.pl ++ (low n a ++ ((p.1 :: MV.nms n p.2) ++ low n b)) := by
      rw [← nms_mid, ← h]; rfl
    refine ⟨fun x hx => ?_, fun s' ex hex => ?_⟩
    · rw [el]
      have := ih.1 x hx
      simp only [List.mem_append, List.mem_cons]
      exact .inr (.inr (.inl (.inr this)))
    · rw [nms_mid, el]
      have k := ih.2 s' ex hex
      have k2 : ((p.1 :: MV.nms n (f s')) ++ low n b).Perm (((p.1 :: MV.nms n p.2) ++ low n b) ++ ex) := by
        refine ((k.cons p.1).append_right _).trans ?_
        rw [List.append_assoc, ← List.cons_append, List.append_assoc]
        exact List.Perm.append_left _ List.perm_append_comm
      refine ((k2.append_left (low n a)).append_left l.pl).trans ?_
      simp only [List.append_assoc]
      exact List.Perm.refl _
theorem WPth.self {n m : Nat} {l : Lv n} {path : List Str} {s : Lv m} {f : Lv m → Lv n} (h : WPth n l path m s f) : f s = l := by
  induction h with
  | nil => rfl
  | @cons n m l a b p path s f h t ih =>
    show ((l.pl, a ++ (p.1, f s) :: b) : List Str × List (Str × Lv n)) = l
    rw [ih]
    show ((l.pl, a ++ p :: b) : List Str × List (Str × Lv n)) = l
    rw [← h]; rfl
end MV
set_option maxHeartbeats 2000000
namespace MV
open PySem
local macro_rules | `(tactic| walk_at "ev") => `(tactic| try simp only [brK_open, ↓brU_true, ↓brU_false, wp_ret, wp_bnd, wp_bad, wp_some, wp_none, wp_var, slotK_d, slotK_own, wp_rd_d, wp_rd_new, getK_some, wp_rd_at, wp_frz_d, wp_frz_new, frzK_d, frzK_own, wp_frz_at, wp_sto_d, wp_sto_new, wp_sto_at, wp_setSl, ownK_lst, wp_ownLst, wp_tr, wp_noX,
  wv_cst, wv_glob, wv_ccon, wv_tup, wv_lst, wv_bin, wv_cmp, wv_isNone, wv_notNone, wv_not, wv_and, wv_or, wv_ite, wv_idx, wv_slc, wv_rev, wv_prim, wv_prim2, wv_joinc, wv_isin, wv_call, wv_callL, wv_pop, popK_lst, wv_attr, wv_prop, wv_comp, wv_mk, wv_rng0, wv_chain,
  we_nil, we_cons, wa_nil, wo_none, wo_some, ws_nil, ws_cons, seqK_next, seqK_ret, seqK_brk, seqK_cont, wst_expr, wst_asg, wst_asgT, wst_append, wst_insert, wst_setIx, wst_ret, wst_ite, wst_for, wst_brk, wst_cont, wst_pass, wst_bad,
  get_mk, set_mk, List.getElem?_cons_zero, List.getElem?_cons_succ, Option.join_some, Option.join_none, List.set_cons_zero, List.set_cons_succ,
  Option.bind_some, List.length_cons, List.length_nil, ix_0, ix_1, ix_2, ix_3, ix_4, ix_5, ix_6, ix_7, ix_8, ix_9, ix_10, ix_11, ix_12, ix_13, ix_m1, item_own, item_lst, item_tup, add_int, sub_int, cmp_le, cmp_lt, cmp_gt, cmp_ge, cmp_eqi, cmp_nei, wp_cmp_int, truth_bl, truth_int, out_d, out_new, out_at, outK_own, allOwn_nil, allOwn_cons, isO_own, true_and, and_true, List.contains_cons, List.contains_nil, Bool.or_false, Bool.false_or, Bool.or_self, Bool.true_or, Bool.or_true, wp_primlen_lst, wp_primlen_tup, intOf_int, ty_non_int, ty_non_bool, ty_non_str, ty_non_tuple, ty_non_list, tyOk_non, isNon_non, ty_bl_int, ty_bl_bool, ty_bl_str, ty_bl_tuple, ty_bl_list, tyOk_bl, isNon_bl, ty_int_int, ty_int_bool, ty_int_str, ty_int_tuple, ty_int_list, tyOk_int, isNon_int, ty_str_int, ty_str_bool, ty_str_str, ty_str_tuple, ty_str_list, tyOk_str, isNon_str, ty_tup_int, ty_tup_bool, ty_tup_str, ty_tup_tuple, ty_tup_list, tyOk_tup, isNon_tup, ty_lst_int, ty_lst_bool, ty_lst_str, ty_lst_tuple, ty_lst_list, tyOk_lst, isNon_lst, ty_obj_int, ty_obj_bool, ty_obj_str, ty_obj_tuple, ty_obj_list, tyOk_obj, isNon_obj, ty_own_list, ty_own_tuple, any1, any2, eq_self, decide_true, decide_false, endK_ret, objK_obj, wst_setFld, put_nil, put_ne, objOf_obj, objOf_own, fld_eq, fld_ne, ne_eq, Nat.reduceEqDiff, Nat.reduceBEq, Nat.zero_ne_one, Nat.one_ne_zero, not_false_eq_true, wp_cmp_obj, wp_len_obj, ansB_bl, tupK_tup, wp_items_obj,  Int.toNat_natCast, slW_d, slW_own, setFin_r, setFin_c, setFin_n, wp_items_lst, wp_items_tup, wp_items_str, bind_one, bind_two, toD_lst, wp_primlen_own, wp_primlen_at', lenK_lst, wp_primlen_str, pr_list, pr_tuple, pr_sorted, pr_max, pr_int, list_lst, list_tup, list_own, list_scr, tuple_lst, tuple_own, tuple_tup, int_int, wp_cmp_str, wp_cmp_bl, cmp_eqb, wa_ref', refK_own, wa_var, wa_cst, wa_lst, wa_tup, wa_idx, wa_bin, wa_call, wa_prim, wa_slc, wa_attr, wa_ite, wa_cmp, wa_comp, wa_rev, wa_isNone, wa_glob, wa_ccon, wa_prop, wl_ref', wl_newa, newK_new, wl_var, List.map_nil, List.map_cons, List.append_nil, decide_eq_true_eq, Bool.false_eq_true, ↓reduceIte, Bool.not_eq_true, Bool.not_true, Bool.not_false])
/-- names of a level's tables: good and different -/
def Ns (n : Nat) (l : Lv n) : Prop := (nms n l).Nodup ∧ ∀ x ∈ nms n l, Nm x
theorem Ns.inn {n : Nat} {l : Lv (n + 1)} (h : Ns (n + 1) l) : (l.inn.map Prod.fst).Nodup ∧ ∀ p ∈ l.inn, Nm p.1 ∧ Ns n p.2 := by
  obtain ⟨h1, h2⟩ := h
  have e : nms (n + 1) l = l.pl ++ low n l.inn := rfl
  rw [e] at h1
  have k := (List.nodup_append.mp h1).2.1
  refine ⟨inn_nodup k, fun p hp => ?_⟩
  have hm : ∀ x ∈ p.1 :: nms n p.2, x ∈ nms (n + 1) l := fun x hx => by
    rw [e]; exact List.mem_append_right _ (List.mem_flatten.mpr ⟨_, List.mem_map.mpr ⟨p, hp, rfl⟩, hx⟩)
  refine ⟨h2 _ (hm _ List.mem_cons_self), ?_, fun x hx => h2 x (hm x (List.mem_cons_of_mem _ hx))⟩
  obtain ⟨a, b, e2⟩ := List.append_of_mem hp
  rw [e2, low_app] at k
  have k2 := (List.nodup_append.mp k).2.1
  have e3 : low n (p :: b) = (p.1 :: nms n p.2) ++ low n b := rfl
  rw [e3] at k2
  exact (List.nodup_cons.mp (List.nodup_append.mp k2).1).2
theorem inner_c {n N t u : Nat} {l : Lv (n + 1)} (h : Ns (n + 1) l) {p : Str × Lv n} (hp : p ∈ l.inn) : C (N + 1) t 26 [.d (encL u (n + 1) l), .d (.str p.1)] fun w _ => w = .d (encL u n p.2) := by
  obtain ⟨hd, hn⟩ := h.inn
  refine cs_of (n := N) (d := f__law_inner) rfl rfl rfl ?_
  show Wp (execs _ _ _ _ f__law_inner.body) ⟨t, [some (.d (encL u (n + 1) l)), some (.d (.str p.1)), none]⟩ _
  unfold f__law_inner
  rw [encL, encM]
  dsimp only
  walk_at "ev"
  refine wp_forMap (fun done e => p ∉ done ∧ ∃ z, e = ⟨t, [some (.d (encL u (n + 1) l)), some (.d (.str p.1)), z]⟩) ⟨by simp, none, by rw [encL, encM]⟩ ?_ ?_
  · rintro e ⟨h1, _⟩
    exact absurd hp h1
  · rintro done q rest e hq ⟨h1, z, rfl⟩
    have hqm : q ∈ l.inn := by rw [hq]; simp
    rw [bind_one]
    walk_at "ev"
    rw [cmp_eqs (hn q hqm).1.ok (hn p hp).1.ok]
    walk_at "ev"
    refine ⟨fun e => ?_, fun e => ⟨?_, _, rfl⟩⟩
    · have := nodup_fst hd q hqm p hp e
      rw [this]
    · simp only [List.mem_append, List.mem_singleton, not_or]
      exact ⟨h1, fun z => e (by rw [z])⟩
theorem at_c {n N t u m : Nat} {l : Lv n} {path : List Str} {s : Lv m} {f : Lv m → Lv n} (hp : WPth n l path m s f) (h : Ns n l) : C (N + 2) t 20 [.d (encL u n l), .d (.lst u (path.map .str))] fun w _ => w = .d (encL u m s) := by
  refine cs_of (n := N + 1) (d := f__law_at) rfl rfl rfl ?_
  show Wp (execs _ _ _ _ f__law_at.body) ⟨t, [some (.d (encL u n l)), some (.d (.lst u (path.map .str))), none]⟩ _
  unfold f__law_at
  dsimp only
  walk_at "ev"
  refine wp_forMapN (fun done e => ∃ (k : Nat) (r : Lv k) (g : Lv m → Lv k) (rest : List Str) (z : Option Sl), path = done ++ rest ∧ WPth k r rest m s g ∧ Ns k r ∧ e = ⟨t, [some (.d (encL u k r)), some (.d (.lst u (path.map .str))), z]⟩) ⟨n, l, f, path, none, rfl, hp, h, rfl⟩ ?_ ?_
  · rintro e ⟨k, r, g, rest, z, h1, h2, h3, rfl⟩
    have : rest = [] := by
      have := congrArg List.length h1
      simp at this
      exact this
    subst this
    cases h2 with
    | nil => walk_at "ev"
  · rintro done x rest e hx ⟨k, r, g, rest', z, h1, h2, h3, rfl⟩
    have hr : rest' = x :: rest := by
      rw [hx] at h1
      exact (List.append_cancel_left h1).symm
    subst hr
    cases h2 with
    | @cons k _ r a b p _ _ f' hh tt =>
      have hpm : p ∈ r.inn := by rw [hh]; simp
      rw [bind_one]
      walk_at "ev"
      refine wp_callD2 (inner_c h3 hpm) ?_
      walk_at "ev"
      exact ⟨k, p.2, f', rest, _, by rw [h1]; simp, tt, (h3.inn.2 p hpm).2, rfl⟩
/-- what becomes of a value when it is stored -/
def fz (t : Nat) : Sl → D
  | .d x => x
  | .own c => c.toD t
theorem frz_fz {t : Nat} {w : Sl} {l : List (Option Sl)} {Q : D → Env → Prop} : Wp (frz (slW w)) ⟨t, l⟩ Q = Q (fz t w) ⟨t, l⟩ := by
  cases w with
  | d x => exact wp_frz_d
  | own c => exact wp_frz_new
theorem eq_path {u : Nat} {path : List Str} (h : ∀ x ∈ path, sOk x) : cmpop .eq (.d (.lst u (path.map .str))) (.own (.lst [])) = some path.isEmpty := by
  · skip
    have sh : SeqAt.shaped (.list (path.map .str)) = true := by
      unfold SeqAt.shaped
      have h1 : PyData.canLay0 (.list (path.map .str)) = true := by
        rw [PyData.canLay0]
        induction path with
        | nil => rfl
        | cons x r ih =>
          rw [List.map_cons, PyData.canLayAll0, PyData.canLay0, ih fun y hy => h y (List.mem_cons_of_mem _ hy)]
          have := h x List.mem_cons_self
          unfold sOk at this
          rw [this]; rfl
      have h2 : (PyData.list (path.map .str)).depth ≤ 64 := by
        rw [PyData.depth]
        have := dep_map (f := PyData.str) (m := 0) (fun a => by rw [PyData.depth]; exact Nat.le_refl _) path
        omega
      rw [h1, decide_eq_true h2]; rfl
    have e1 : (Sl.d (.lst u (path.map .str))).py = .list (path.map .str) := by
      show py _ = _
      rw [py, pyL_map]
      simp only [py]
    have c : ((Sl.d (.lst u (path.map .str))).isPy && (Sl.own (.lst [])).isPy && SeqAt.shaped (Sl.d (.lst u (path.map .str))).py && SeqAt.shaped (Sl.own (.lst [])).py) = true := by
      rw [e1, sh]
      have e2 : (Sl.d (.lst u (path.map .str))).isPy = true := by
        show isPy _ = true
        rw [isPy]
        exact isPyL_map _ isPy_str path
      rw [e2]; rfl
    unfold cmpop
    dsimp only
    rw [if_pos c, e1]
    cases path with
    | nil => rfl
    | cons x r => rfl
theorem WPth.mem {n m : Nat} {l : Lv n} {path : List Str} {s : Lv m} {f : Lv m → Lv n} (h : WPth n l path m s f) : ∀ x ∈ path, x ∈ MV.nms n l := by
  induction h with
  | nil => intro x hx; cases hx
  | @cons n m l a b p path s f h t ih =>
    intro x hx
    have el : MV.nms (n + 1) l = l.pl ++ (low n a ++ ((p.1 :: MV.nms n p.2) ++ low n b)) := by
      rw [← nms_mid, ← h]; rfl
    rw [el]
    simp only [List.mem_append, List.mem_cons]
    rcases List.mem_cons.mp hx with rfl | hx
    · exact .inr (.inr (.inl (.inl rfl)))
    · exact .inr (.inr (.inl (.inr (ih x hx))))
theorem sl_tail {u : Nat} {x : D} {xs : List D} : sliced (.d (.lst u (x :: xs))) (some 1) none = some (.new (.lst xs)) := by
  show some (W.new (.lst (cut (x :: xs) (some 1) none))) = _
  unfold cut sIx
  simp
abbrev prL (t n : Nat) (q : Str × Lv n) : D := .lst t [.str q.1, encL t n q.2]
theorem with_map {t n : Nat} {a b : List (Str × Lv n)} {p : Str × Lv n} {z : Lv n} (hd : ((a ++ p :: b).map Prod.fst).Nodup) : ((a ++ p :: b).map fun (q : Str × Lv n) => if q.1 = p.1 then prL t n (p.1, z) else prL t n q) = (a ++ (p.1, z) :: b).map (prL t n) := by
  rw [List.map_append, List.map_cons, List.nodup_append, List.nodup_cons] at hd
  rw [List.map_append, List.map_append, List.map_cons, List.map_cons, if_pos rfl]
  have h1 : ∀ q ∈ a, q.1 ≠ p.1 := fun q hq => hd.2.2 q.1 (List.mem_map.mpr ⟨q, hq, rfl⟩) p.1 List.mem_cons_self
  have h2 : ∀ q ∈ b, q.1 ≠ p.1 := fun q hq e => hd.2.1.1 (List.mem_map.mpr ⟨q, hq, e⟩)
  congr 1
  · apply List.map_congr_left
    intro q hq
    rw [if_neg (h1 q hq)]
  · congr 1
    apply List.map_congr_left
    intro q hq
    rw [if_neg (h2 q hq)]
theorem with_c : ∀ (n N t m : Nat) (l : Lv n) (path : List Str) (s s' : Lv m) (f : Lv m → Lv n), WPth n l path m s f → Ns n l → (nms n l).length ≤ 100 → C (N + n + 1) t 22 [.d (encL t n l), .d (.lst t (path.map .str)), .d (encL t m s')] fun w _ => fz t w = encL t n (f s')
  | n, N, t, m, l, path, s, s', f, hp, h, hl => by
    have pok : ∀ x ∈ path, sOk x := fun x hx => (h.2 x (hp.mem x hx)).ok
    refine cs_of (n := N + n) (d := f__law_with) rfl rfl rfl ?_
    show Wp (execs _ _ _ _ f__law_with.body) ⟨t, [some (.d (encL t n l)), some (.d (.lst t (path.map .str))), some (.d (encL t m s')), none, none]⟩ _
    unfold f__law_with
    dsimp only
    cases hp with
    | nil =>
      walk_at "ev"
      rw [wp_cmp_lst]
      walk_at "ev"
      have e0 := eq_path (u := t) (path := []) (fun _ h => (by cases h))
      rw [List.map_nil] at e0
      rw [e0]
      walk_at "ev"
      exact ⟨fun _ => rfl, fun h => absurd rfl h⟩
    | @cons n _ l a b p path _ g hh tt =>
      obtain ⟨hd, hn⟩ := h.inn
      have eM : encL t (n + 1) l = .lst t [.lst t (l.pl.map .str), .lst t (l.inn.map fun p => .lst t [.str p.1, encL t n p.2])] := rfl
      have hpm : p ∈ l.inn := by rw [hh]; simp
      have hlen : (l.pl.length + l.inn.length) ≤ (nms (n + 1) l).length := Sm.len ⟨hl, h.2⟩
      have hsub : (nms n p.2).length ≤ 100 := by
        have := (Sm.inn ⟨hl, h.2⟩ hpm).2.2
        omega
      walk_at "ev"
      rw [wp_cmp_lst]
      walk_at "ev"
      rw [show D.str p.1 :: path.map D.str = (p.1 :: path).map D.str from rfl, eq_path pok]
      walk_at "ev"
      refine ⟨fun h => (by cases h), fun _ => ?_⟩
      rw [eM]
      walk_at "ev"
      refine wp_forMapN (fun (done : List (Str × Lv n)) e => ∃ z, e = ⟨t, [some (.d (encL t (n + 1) l)), some (.d (.lst t ((p.1 :: path).map .str))), some (.d (encL t m s')), some (.own (.lst (done.map fun (q : Str × Lv n) => if q.1 = p.1 then prL t n (p.1, g s') else prL t n q))), z]⟩) ⟨none, by rw [eM]; rfl⟩ ?_ ?_
      · rintro e ⟨z, rfl⟩
        rw [eM]
        walk_at "ev"
        rw [hh, with_map (by rw [← hh]; exact hd)]
        rfl
      · rintro done q rest e hq ⟨z, rfl⟩
        have hqm : q ∈ l.inn := by rw [hq]; simp
        have hdl : done.length < l.inn.length := by rw [hq]; simp
        rw [bind_one]
        walk_at "ev"
        rw [cmp_eqs (hn q hqm).1.ok (hn p hpm).1.ok]
        walk_at "ev"
        refine ⟨fun e => ?_, fun e => ?_⟩
        · have : q = p := nodup_fst hd q hqm p hpm e
          subst this
          rw [sl_tail]
          walk_at "ev"
          refine wp_callS [encL t n q.2, .lst t (path.map D.str), encL t m s'] (with_c n N t m q.2 path s s' g tt (hn q hqm).2 hsub) ?_
          intro w fin hw
          rw [frz_fz, hw]
          walk_at "ev"
          refine ⟨fun _ => ?_, fun hx => absurd (by rw [List.length_map]; omega) hx⟩
          refine ⟨some (.d (prL t n q)), ?_⟩
          rw [List.map_append, List.map_cons, if_pos rfl]
          rfl
        · refine ⟨fun _ => ?_, fun hx => absurd (by rw [List.length_map]; omega) hx⟩
          refine ⟨some (.d (prL t n q)), ?_⟩
          rw [List.map_append, List.map_cons, if_neg e]
          rfl
end MV
set_option maxHeartbeats 2000000
namespace MV
open PySem
local macro_rules | `(tactic| walk_at "ev") => `(tactic| try simp only [brK_open, ↓brU_true, ↓brU_false, wp_ret, wp_bnd, wp_bad, wp_some, wp_none, wp_var, slotK_d, slotK_own, wp_rd_d, wp_rd_new, getK_some, wp_rd_at, wp_frz_d, wp_frz_new, frzK_d, frzK_own, wp_frz_at, wp_sto_d, wp_sto_new, wp_sto_at, wp_setSl, ownK_lst, wp_ownLst, wp_tr, wp_noX,
  wv_cst, wv_glob, wv_ccon, wv_tup, wv_lst, wv_bin, wv_cmp, wv_isNone, wv_notNone, wv_not, wv_and, wv_or, wv_ite, wv_idx, wv_slc, wv_rev, wv_prim, wv_prim2, wv_joinc, wv_isin, wv_call, wv_callL, wv_pop, popK_lst, wv_attr, wv_prop, wv_comp, wv_mk, wv_rng0, wv_chain,
  we_nil, we_cons, wa_nil, wo_none, wo_some, ws_nil, ws_cons, seqK_next, seqK_ret, seqK_brk, seqK_cont, wst_expr, wst_asg, wst_asgT, wst_append, wst_insert, wst_setIx, wst_ret, wst_ite, wst_for, wst_brk, wst_cont, wst_pass, wst_bad,
  get_mk, set_mk, List.getElem?_cons_zero, List.getElem?_cons_succ, Option.join_some, Option.join_none, List.set_cons_zero, List.set_cons_succ,
  Option.bind_some, List.length_cons, List.length_nil, ix_0, ix_1, ix_2, ix_3, ix_4, ix_5, ix_6, ix_7, ix_8, ix_9, ix_10, ix_11, ix_12, ix_13, ix_m1, item_own, item_lst, item_tup, add_int, sub_int, cmp_le, cmp_lt, cmp_gt, cmp_ge, cmp_eqi, cmp_nei, wp_cmp_int, truth_bl, truth_int, out_d, out_new, out_at, outK_own, allOwn_nil, allOwn_cons, isO_own, true_and, and_true, List.contains_cons, List.contains_nil, Bool.or_false, Bool.false_or, Bool.or_self, Bool.true_or, Bool.or_true, wp_primlen_lst, wp_primlen_tup, intOf_int, ty_non_int, ty_non_bool, ty_non_str, ty_non_tuple, ty_non_list, tyOk_non, isNon_non, ty_bl_int, ty_bl_bool, ty_bl_str, ty_bl_tuple, ty_bl_list, tyOk_bl, isNon_bl, ty_int_int, ty_int_bool, ty_int_str, ty_int_tuple, ty_int_list, tyOk_int, isNon_int, ty_str_int, ty_str_bool, ty_str_str, ty_str_tuple, ty_str_list, tyOk_str, isNon_str, ty_tup_int, ty_tup_bool, ty_tup_str, ty_tup_tuple, ty_tup_list, tyOk_tup, isNon_tup, ty_lst_int, ty_lst_bool, ty_lst_str, ty_lst_tuple, ty_lst_list, tyOk_lst, isNon_lst, ty_obj_int, ty_obj_bool, ty_obj_str, ty_obj_tuple, ty_obj_list, tyOk_obj, isNon_obj, ty_own_list, ty_own_tuple, any1, any2, eq_self, decide_true, decide_false, endK_ret, objK_obj, wst_setFld, put_nil, put_ne, objOf_obj, objOf_own, fld_eq, fld_ne, ne_eq, Nat.reduceEqDiff, Nat.reduceBEq, Nat.zero_ne_one, Nat.one_ne_zero, not_false_eq_true, wp_cmp_obj, wp_len_obj, ansB_bl, tupK_tup, wp_items_obj,  Int.toNat_natCast, slW_d, slW_own, setFin_r, setFin_c, setFin_n, wp_items_lst, wp_items_tup, wp_items_str, bind_one, bind_two, toD_lst, wp_primlen_own, wp_primlen_at', lenK_lst, wp_primlen_str, pr_list, pr_tuple, pr_sorted, pr_max, pr_int, list_lst, list_tup, list_own, list_scr, tuple_lst, tuple_own, tuple_tup, int_int, wp_cmp_str, wp_cmp_bl, cmp_eqb, wa_ref', refK_own, wa_var, wa_cst, wa_lst, wa_tup, wa_idx, wa_bin, wa_call, wa_prim, wa_slc, wa_attr, wa_ite, wa_cmp, wa_comp, wa_rev, wa_isNone, wa_glob, wa_ccon, wa_prop, wl_ref', wl_newa, newK_new, wl_var, List.map_nil, List.map_cons, List.append_nil, decide_eq_true_eq, Bool.false_eq_true, ↓reduceIte, Bool.not_eq_true, Bool.not_true, Bool.not_false])
/-- a home of a level -/
def IsHome (n : Nat) (l : Lv n) (path : List Str) : Prop := ∃ (m : Nat) (s : Lv m) (f : Lv m → Lv n), WPth n l path m s f
theorem homes_c : ∀ (n N t : Nat) (l : Lv n) (pre : List Str), (nms n l).length ≤ 100 → pre.length + n ≤ 100 → C (N + n) t 21 [.d (encL t n l), .d (.lst t (pre.map .str))] fun w _ => ∃ hs : List (List Str), w = .own (.lst (hs.map fun h => D.lst t (h.map .str))) ∧ hs ≠ [] ∧ hs.length ≤ (nms n l).length + 1 ∧ ∀ h ∈ hs, ∃ path, h = pre ++ path ∧ IsHome n l path
  | 0, N, t, l, pre, _, _ => Empty.elim l
  | n + 1, N, t, l, pre, hl, hpl => by
    refine cs_of (n := N + n) (d := f__law_homes) rfl rfl rfl ?_
    show Wp (execs _ _ _ _ f__law_homes.body) ⟨t, [some (.d (encL t (n + 1) l)), some (.d (.lst t (pre.map .str))), none, none]⟩ _
    unfold f__law_homes
    rw [encL, encM]
    dsimp only
    walk_at "ev"
    refine wp_forMapN (fun (done : List (Str × Lv n)) e => ∃ (hs : List (List Str)) (z : Option Sl), hs ≠ [] ∧ hs.length ≤ (low n done).length + 1 ∧ (∀ h ∈ hs, ∃ path, h = pre ++ path ∧ IsHome (n + 1) l path) ∧ e = ⟨t, [some (.d (encL t (n + 1) l)), some (.d (.lst t (pre.map .str))), some (.own (.lst (hs.map fun h => D.lst t (h.map .str)))), z]⟩) ⟨[pre], none, by simp, by simp, fun h hh => ⟨[], by simpa using hh, _, _, _, .nil⟩, by rw [encL, encM]; rfl⟩ ?_ ?_
    · rintro e ⟨hs, z, h1, h2, h3, rfl⟩
      walk_at "ev"
      refine ⟨hs, rfl, h1, ?_, h3⟩
      have e : nms (n + 1) l = l.pl ++ low n l.inn := rfl
      rw [e, List.length_append]
      omega
    · rintro done p rest e hd ⟨hs, z, h1, h2, h3, rfl⟩
      have hlow := low_len hd
      rw [bind_one]
      walk_at "ev"
      rw [add_lo (by simp; omega)]
      walk_at "ev"
      rw [show pre.map D.str ++ [D.str p.1] = (pre ++ [p.1]).map D.str by rw [List.map_append]; rfl]
      refine wp_callS [encL t n p.2, .lst t ((pre ++ [p.1]).map D.str)] (homes_c n N t p.2 (pre ++ [p.1]) (by omega) (by simp; omega)) ?_
      rintro w fin ⟨hs2, rfl, k1, k2, k3⟩
      walk_at "ev"
      rw [add_own (by simp; omega)]
      walk_at "ev"
      refine ⟨hs ++ hs2, some (.d (.lst t [.str p.1, encL t n p.2])), by simp [h1], ?_, fun h hh => ?_, by rw [List.map_append]⟩
      · rw [low_app, List.length_append, List.length_append]
        have : low n [p] = p.1 :: nms n p.2 := by unfold low; simp
        rw [this, List.length_cons]
        omega
      · rcases List.mem_append.mp hh with q | q
        · exact h3 h q
        · obtain ⟨path, e1, m, s, f, tt⟩ := k3 h q
          exact ⟨p.1 :: path, by rw [e1]; simp, m, s, _, .cons hd tt⟩
end MV
set_option maxHeartbeats 2000000
namespace MV
open PySem
local macro_rules | `(tactic| walk_at "ev") => `(tactic| try simp only [brK_open, ↓brU_true, ↓brU_false, wp_ret, wp_bnd, wp_bad, wp_some, wp_none, wp_var, slotK_d, slotK_own, wp_rd_d, wp_rd_new, getK_some, wp_rd_at, wp_frz_d, wp_frz_new, frzK_d, frzK_own, wp_frz_at, wp_sto_d, wp_sto_new, wp_sto_at, wp_setSl, ownK_lst, wp_ownLst, wp_tr, wp_noX,
  wv_cst, wv_glob, wv_ccon, wv_tup, wv_lst, wv_bin, wv_cmp, wv_isNone, wv_notNone, wv_not, wv_and, wv_or, wv_ite, wv_idx, wv_slc, wv_rev, wv_prim, wv_prim2, wv_joinc, wv_isin, wv_call, wv_callL, wv_pop, popK_lst, wv_attr, wv_prop, wv_comp, wv_mk, wv_rng0, wv_chain,
  we_nil, we_cons, wa_nil, wo_none, wo_some, ws_nil, ws_cons, seqK_next, seqK_ret, seqK_brk, seqK_cont, wst_expr, wst_asg, wst_asgT, wst_append, wst_insert, wst_setIx, wst_ret, wst_ite, wst_for, wst_brk, wst_cont, wst_pass, wst_bad,
  get_mk, set_mk, List.getElem?_cons_zero, List.getElem?_cons_succ, Option.join_some, Option.join_none, List.set_cons_zero, List.set_cons_succ,
  Option.bind_some, List.length_cons, List.length_nil, ix_0, ix_1, ix_2, ix_3, ix_4, ix_5, ix_6, ix_7, ix_8, ix_9, ix_10, ix_11, ix_12, ix_13, ix_m1, item_own, item_lst, item_tup, add_int, sub_int, cmp_le, cmp_lt, cmp_gt, cmp_ge, cmp_eqi, cmp_nei, wp_cmp_int, truth_bl, truth_int, out_d, out_new, out_at, outK_own, allOwn_nil, allOwn_cons, isO_own, true_and, and_true, List.contains_cons, List.contains_nil, Bool.or_false, Bool.false_or, Bool.or_self, Bool.true_or, Bool.or_true, wp_primlen_lst, wp_primlen_tup, intOf_int, ty_non_int, ty_non_bool, ty_non_str, ty_non_tuple, ty_non_list, tyOk_non, isNon_non, ty_bl_int, ty_bl_bool, ty_bl_str, ty_bl_tuple, ty_bl_list, tyOk_bl, isNon_bl, ty_int_int, ty_int_bool, ty_int_str, ty_int_tuple, ty_int_list, tyOk_int, isNon_int, ty_str_int, ty_str_bool, ty_str_str, ty_str_tuple, ty_str_list, tyOk_str, isNon_str, ty_tup_int, ty_tup_bool, ty_tup_str, ty_tup_tuple, ty_tup_list, tyOk_tup, isNon_tup, ty_lst_int, ty_lst_bool, ty_lst_str, ty_lst_tuple, ty_lst_list, tyOk_lst, isNon_lst, ty_obj_int, ty_obj_bool, ty_obj_str, ty_obj_tuple, ty_obj_list, tyOk_obj, isNon_obj, ty_own_list, ty_own_tuple, any1, any2, eq_self, decide_true, decide_false, endK_ret, objK_obj, wst_setFld, put_nil, put_ne, objOf_obj, objOf_own, fld_eq, fld_ne, ne_eq, Nat.reduceEqDiff, Nat.reduceBEq, Nat.zero_ne_one, Nat.one_ne_zero, not_false_eq_true, wp_cmp_obj, wp_len_obj, ansB_bl, tupK_tup, wp_items_obj,  Int.toNat_natCast, slW_d, slW_own, setFin_r, setFin_c, setFin_n, wp_items_lst, wp_items_tup, wp_items_str, bind_one, bind_two, toD_lst, wp_primlen_own, wp_primlen_at', lenK_lst, wp_primlen_str, pr_list, pr_tuple, pr_sorted, pr_max, pr_int, list_lst, list_tup, list_own, list_scr, tuple_lst, tuple_own, tuple_tup, int_int, wp_cmp_str, wp_cmp_bl, cmp_eqb, wa_ref', refK_own, wa_var, wa_cst, wa_lst, wa_tup, wa_idx, wa_bin, wa_call, wa_prim, wa_slc, wa_attr, wa_ite, wa_cmp, wa_comp, wa_rev, wa_isNone, wa_glob, wa_ccon, wa_prop, wl_ref', wl_newa, newK_new, wl_var, List.map_nil, List.map_cons, List.append_nil, decide_eq_true_eq, Bool.false_eq_true, ↓reduceIte, Bool.not_eq_true, Bool.not_true, Bool.not_false])
def rnm (old new x : Str) : Str := if x = old then new else x
def rn (old new : Str) : ∀ n, Lv n → Lv n
  | 0, l => Empty.elim l
  | n + 1, l => ((srt (l.pl.map (rnm old new)), srtP (l.inn.map fun p => (rnm old new p.1, rn old new n p.2))) : List Str × List (Str × Lv n))
theorem rn_nms (old new : Str) : ∀ n (l : Lv n), (nms n (rn old new n l)).Perm ((nms n l).map (rnm old new))
  | 0, l => Empty.elim l
  | n + 1, l => by
    have e1 : nms (n + 1) (rn old new (n + 1) l) = srt (l.pl.map (rnm old new)) ++ low n (srtP (l.inn.map fun p => (rnm old new p.1, rn old new n p.2))) := rfl
    have e2 : nms (n + 1) l = l.pl ++ low n l.inn := rfl
    rw [e1, e2, List.map_append]
    refine (srt_perm _).append ((low_perm (srtP_perm _)).trans ?_)
    have : ∀ q : List (Str × Lv n), (low n (q.map fun p => (rnm old new p.1, rn old new n p.2))).Perm ((low n q).map (rnm old new)) := fun q => by
      induction q with
      | nil => exact List.Perm.refl _
      | cons p q ih =>
        have a1 : low n ((p :: q).map fun p => (rnm old new p.1, rn old new n p.2)) = (rnm old new p.1 :: nms n (rn old new n p.2)) ++ low n (q.map fun p => (rnm old new p.1, rn old new n p.2)) := rfl
        have a2 : (low n (p :: q)).map (rnm old new) = (rnm old new p.1 :: (nms n p.2).map (rnm old new)) ++ (low n q).map (rnm old new) := by
          have : low n (p :: q) = (p.1 :: nms n p.2) ++ low n q := rfl
          rw [this, List.map_append, List.map_cons]
        rw [a1, a2]
        exact ((rn_nms old new n p.2).cons _).append ih
    exact this l.inn
theorem rn_wf (old new : Str) : ∀ n (l : Lv n), Wf n l → Wf n (rn old new n l)
  | 0, l, _ => Empty.elim l
  | n + 1, l, h => by
    obtain ⟨h1, h2, h3, h4⟩ := h
    refine ⟨fun e => ?_, srt_sorted _, srtP_sorted _, fun q hq => ?_⟩
    · have e : srt (l.pl.map (rnm old new)) = [] := e
      have := (srt_perm (l.pl.map (rnm old new))).length_eq
      rw [e, List.length_map] at this
      exact h1 (List.length_eq_zero_iff.mp this.symm)
    · have hq : q ∈ srtP (l.inn.map fun p => (rnm old new p.1, rn old new n p.2)) := hq
      rw [(srtP_perm _).mem_iff] at hq
      obtain ⟨p, hp, rfl⟩ := List.mem_map.mp hq
      exact rn_wf old new n p.2 (h4 p hp)
theorem rnm_inj {old new : Str} {xs : List Str} (hn : new ∉ xs) (hd : xs.Nodup) : (xs.map (rnm old new)).Nodup := by
  unfold List.Nodup at hd ⊢
  rw [List.pairwise_map]
  refine List.Pairwise.imp_of_mem (fun {a b} ha hb h e => ?_) hd
  unfold rnm at e
  by_cases h1 : a = old
  · by_cases h2 : b = old
    · exact h (h1.trans h2.symm)
    · rw [if_pos h1, if_neg h2] at e
      exact hn (e ▸ hb)
  · by_cases h2 : b = old
    · rw [if_neg h1, if_pos h2] at e
      exact hn (e ▸ ha)
    · rw [if_neg h1, if_neg h2] at e
      exact h e
theorem rn_ns {old new : Str} {n : Nat} {l : Lv n} (h : Ns n l) (hn : new ∉ nms n l) (hv : Nm new) : Ns n (rn old new n l) := by
  refine ⟨(rn_nms old new n l).nodup_iff.mpr (rnm_inj hn h.1), fun x hx => ?_⟩
  rw [(rn_nms old new n l).mem_iff] at hx
  obtain ⟨y, hy, rfl⟩ := List.mem_map.mp hx
  unfold rnm
  split
  · exact hv
  · exact h.2 y hy
theorem renamed_c : ∀ (n N t u : Nat) (l : Lv n) (old new : Str), Ns n l → (nms n l).length ≤ 100 → new ∉ nms n l → sOk old → n ≤ 10 → C (N + n) t 13 [.d (encL u n l), .d (.str old), .d (.str new)] fun w _ => fz t w = encL t n (rn old new n l)
  | 0, N, t, u, l, _, _, _, _, _, _, _ => Empty.elim l
  | n + 1, N, t, u, l, old, new, h, hl, hn, hv, h10 => by
    obtain ⟨hd, hn2⟩ := h.inn
    have hlen : (l.pl.length + l.inn.length) ≤ (nms (n + 1) l).length := Sm.len ⟨hl, h.2⟩
    have epl : nms (n + 1) l = l.pl ++ low n l.inn := rfl
    refine cs_of (n := N + n) (d := f__law_renamed) rfl rfl rfl ?_
    show Wp (execs _ _ _ _ f__law_renamed.body) ⟨t, [some (.d (encL u (n + 1) l)), some (.d (.str old)), some (.d (.str new)), none, none, none, none]⟩ _
    unfold f__law_renamed
    rw [encL, encM]
    dsimp only
    walk_at "ev"
    refine wp_comp_mapF (ys := l.pl) (f := D.str) (g := fun x => D.str (rnm old new x)) ?_
    walk_at "ev"
    refine ⟨by omega, fun x hx => ?_, ?_⟩
    · rw [cmp_eqs (h.2 x (by rw [epl]; exact List.mem_append_left _ hx)).ok hv]
      walk_at "ev"
      unfold rnm
      refine ⟨fun e => by rw [if_pos e], fun e => by rw [if_neg e]⟩
    refine wp_comp_mapF (ys := l.inn) (f := fun p => .lst u [.str p.1, encL u n p.2]) (g := fun p => prL t n (rnm old new p.1, rn old new n p.2)) ?_
    walk_at "ev"
    refine ⟨by omega, fun p hp => ?_, ?_⟩
    · have hm : ∀ x ∈ p.1 :: nms n p.2, x ∈ nms (n + 1) l := fun x hx => by
        rw [epl]; exact List.mem_append_right _ (List.mem_flatten.mpr ⟨_, List.mem_map.mpr ⟨p, hp, rfl⟩, hx⟩)
      have hs := (Sm.inn ⟨hl, h.2⟩ hp).2.2
      have call : ∀ {e : Env} {Q : W → Env → Prop} {sl : List (Option Sl)}, e = ⟨t, sl⟩ → (∀ w, fz t w = encL t n (rn old new n p.2) → Q (slW w) e) → Wp (callM (callF info fns 0 (N + n)) 13 [.d (encL u n p.2), .d (.str old), .d (.str new)]) e Q := fun {e Q sl} he k => by
        subst he
        exact wp_callS [encL u n p.2, .str old, .str new] (renamed_c n N t u p.2 old new (hn2 p hp).2 (by omega) (fun z => hn (hm _ (List.mem_cons_of_mem _ z))) hv (by omega)) fun w fin hw => k w hw
      rw [cmp_eqs (hn2 p hp).1.ok hv]
      walk_at "ev"
      unfold rnm
      refine ⟨fun e => ?_, fun e => ?_⟩
      · rw [if_pos e]
        refine call rfl fun w hw => ?_
        rw [frz_fz, hw]
        walk_at "ev"
      · rw [if_neg e]
        walk_at "ev"
        refine call rfl fun w hw => ?_
        rw [frz_fz, hw]
        walk_at "ev"
    rw [sorted_strs (xs := l.pl.map (rnm old new)) (by show some _ = _; rw [List.map_map]; rfl)]
    walk_at "ev"
    have hfst : ((l.inn.map fun p => (rnm old new p.1, rn old new n p.2)).map Prod.fst).Nodup := by
      have e : (l.inn.map fun p => (rnm old new p.1, rn old new n p.2)).map Prod.fst = (l.inn.map Prod.fst).map (rnm old new) := by rw [List.map_map, List.map_map]; rfl
      rw [e]
      refine rnm_inj (fun z => ?_) hd
      obtain ⟨p, hp, e2⟩ := List.mem_map.mp z
      apply hn
      rw [epl, ← e2]
      exact List.mem_append_right _ (List.mem_flatten.mpr ⟨_, List.mem_map.mpr ⟨p, hp, rfl⟩, List.mem_cons_self⟩)
    rw [sorted_L (n := n) (u := t) (by omega) hfst (by show some _ = _; rw [List.map_map]; rfl)]
    walk_at "ev"
    rfl
end MV
set_option maxHeartbeats 4000000
namespace MV
open PySem
local macro_rules | `(tactic| walk_at "ev") => `(tactic| try simp only [brK_open, ↓brU_true, ↓brU_false, wp_ret, wp_bnd, wp_bad, wp_some, wp_none, wp_var, slotK_d, slotK_own, wp_rd_d, wp_rd_new, getK_some, wp_rd_at, wp_frz_d, wp_frz_new, frzK_d, frzK_own, wp_frz_at, wp_sto_d, wp_sto_new, wp_sto_at, wp_setSl, ownK_lst, wp_ownLst, wp_tr, wp_noX,
  wv_cst, wv_glob, wv_ccon, wv_tup, wv_lst, wv_bin, wv_cmp, wv_isNone, wv_notNone, wv_not, wv_and, wv_or, wv_ite, wv_idx, wv_slc, wv_rev, wv_prim, wv_prim2, wv_joinc, wv_isin, wv_call, wv_callL, wv_pop, popK_lst, wv_attr, wv_prop, wv_comp, wv_mk, wv_rng0, wv_chain,
  we_nil, we_cons, wa_nil, wo_none, wo_some, ws_nil, ws_cons, seqK_next, seqK_ret, seqK_brk, seqK_cont, wst_expr, wst_asg, wst_asgT, wst_append, wst_insert, wst_setIx, wst_ret, wst_ite, wst_for, wst_brk, wst_cont, wst_pass, wst_bad,
  get_mk, set_mk, List.getElem?_cons_zero, List.getElem?_cons_succ, Option.join_some, Option.join_none, List.set_cons_zero, List.set_cons_succ,
  Option.bind_some, List.length_cons, List.length_nil, ix_0, ix_1, ix_2, ix_3, ix_4, ix_5, ix_6, ix_7, ix_8, ix_9, ix_10, ix_11, ix_12, ix_13, ix_m1, item_own, item_lst, item_tup, add_int, sub_int, cmp_le, cmp_lt, cmp_gt, cmp_ge, cmp_eqi, cmp_nei, wp_cmp_int, truth_bl, truth_int, out_d, out_new, out_at, outK_own, allOwn_nil, allOwn_cons, isO_own, true_and, and_true, List.contains_cons, List.contains_nil, Bool.or_false, Bool.false_or, Bool.or_self, Bool.true_or, Bool.or_true, wp_primlen_lst, wp_primlen_tup, intOf_int, ty_non_int, ty_non_bool, ty_non_str, ty_non_tuple, ty_non_list, tyOk_non, isNon_non, ty_bl_int, ty_bl_bool, ty_bl_str, ty_bl_tuple, ty_bl_list, tyOk_bl, isNon_bl, ty_int_int, ty_int_bool, ty_int_str, ty_int_tuple, ty_int_list, tyOk_int, isNon_int, ty_str_int, ty_str_bool, ty_str_str, ty_str_tuple, ty_str_list, tyOk_str, isNon_str, ty_tup_int, ty_tup_bool, ty_tup_str, ty_tup_tuple, ty_tup_list, tyOk_tup, isNon_tup, ty_lst_int, ty_lst_bool, ty_lst_str, ty_lst_tuple, ty_lst_list, tyOk_lst, isNon_lst, ty_obj_int, ty_obj_bool, ty_obj_str, ty_obj_tuple, ty_obj_list, tyOk_obj, isNon_obj, ty_own_list, ty_own_tuple, any1, any2, eq_self, decide_true, decide_false, endK_ret, objK_obj, wst_setFld, put_nil, put_ne, objOf_obj, objOf_own, fld_eq, fld_ne, ne_eq, Nat.reduceEqDiff, Nat.reduceBEq, Nat.zero_ne_one, Nat.one_ne_zero, not_false_eq_true, wp_cmp_obj, wp_len_obj, ansB_bl, tupK_tup, wp_items_obj,  Int.toNat_natCast, slW_d, slW_own, setFin_r, setFin_c, setFin_n, wp_items_lst, wp_items_tup, wp_items_str, bind_one, bind_two, toD_lst, wp_primlen_own, wp_primlen_at', lenK_lst, wp_primlen_str, pr_list, pr_tuple, pr_sorted, pr_max, pr_int, list_lst, list_tup, list_own, list_scr, tuple_lst, tuple_own, tuple_tup, int_int, wp_cmp_str, wp_cmp_bl, cmp_eqb, wa_ref', refK_own, wa_var, wa_cst, wa_lst, wa_tup, wa_idx, wa_bin, wa_call, wa_prim, wa_slc, wa_attr, wa_ite, wa_cmp, wa_comp, wa_rev, wa_isNone, wa_glob, wa_ccon, wa_prop, wl_ref', wl_newa, newK_new, wl_var, List.map_nil, List.map_cons, List.append_nil, decide_eq_true_eq, Bool.false_eq_true, ↓reduceIte, Bool.not_eq_true, Bool.not_true, Bool.not_false])
/-- what is handed in: plain data, all of epoch t -/
structure Od (t n : Nat) (d : D) : Prop where
  pur : Pur d
  at_ : allAt t d = true
  sq : isSeq d = true
  dp : depthD d + 1 ≤ 2 * n
theorem purL_of : ∀ {xs : List D}, (∀ x ∈ xs, Pur x) → PurL xs
  | [], _ => by unfold PurL; trivial
  | x :: xs, h => by unfold PurL; exact ⟨h x List.mem_cons_self, purL_of fun y hy => h y (List.mem_cons_of_mem _ hy)⟩
theorem allAtL_of {t : Nat} : ∀ {xs : List D}, (∀ x ∈ xs, allAt t x = true) → allAtL t xs = true
  | [], _ => rfl
  | x :: xs, h => by unfold allAtL; rw [h x List.mem_cons_self, allAtL_of fun y hy => h y (List.mem_cons_of_mem _ hy)]; rfl
theorem depthL_le {m : Nat} : ∀ {xs : List D}, (∀ x ∈ xs, depthD x ≤ m) → depthL xs ≤ m
  | [], _ => Nat.zero_le _
  | x :: xs, h => by unfold depthL; exact Nat.max_le.mpr ⟨h x List.mem_cons_self, depthL_le fun y hy => h y (List.mem_cons_of_mem _ hy)⟩
/-- the entries so far -/
structure Iv (t n : Nat) (l : Lv (n + 1)) (done : List (Str × Lv n)) (its : List (It n)) : Prop where
  pl : (its.filterMap itPl).Perm l.pl
  tb : (its.filterMap itTb).Perm done
  ok : ∀ q, Sum.inr q ∈ its → (∃ e, isPair q.1 q.2.1 e ∧ Pres n e q.2.2) ∧ Pur q.1 ∧ allAt t q.1 = true ∧ depthD q.1 ≤ 2 * n
theorem Iv.perm {t n : Nat} {l : Lv (n + 1)} {done : List (Str × Lv n)} {a b : List (It n)} (h : Iv t n l done a) (p : b.Perm a) : Iv t n l done b :=
  ⟨(p.filterMap _).trans h.pl, (p.filterMap _).trans h.tb, fun q hq => h.ok q (p.mem_iff.mp hq)⟩
theorem Iv.len {t n : Nat} {l : Lv (n + 1)} {done : List (Str × Lv n)} {a : List (It n)} (h : Iv t n l done a) : a.length = l.pl.length + done.length := by
  rw [← h.pl.length_eq, ← h.tb.length_eq]
  clear h
  induction a with
  | nil => rfl
  | cons x a ih =>
    cases x with
    | inl s => rw [List.filterMap_cons_some (show itPl (n := n) (.inl s) = some s from rfl), List.filterMap_cons_none (show itTb (n := n) (.inl s) = none from rfl), List.length_cons, List.length_cons, ih]; omega
    | inr s => rw [List.filterMap_cons_none (show itPl (n := n) (.inr s) = none from rfl), List.filterMap_cons_some (show itTb (n := n) (.inr s) = some s.2 from rfl), List.length_cons, List.length_cons, ih]; omega
theorem Iv.od {t n : Nat} {l : Lv (n + 1)} {a : List (It n)} (h : Iv t n l l.inn a) (hs : ∀ x ∈ l.pl, sOk x) (hl : a.length < 1000000) : Od t (n + 1) (.lst t (a.map itD)) ∧ Od t (n + 1) (.tup (a.map itD)) := by
  have m : ∀ x ∈ a.map itD, Pur x ∧ allAt t x = true ∧ depthD x ≤ 2 * n := fun x hx => by
    obtain ⟨it, hi, rfl⟩ := List.mem_map.mp hx
    cases it with
    | inl s =>
      refine ⟨?_, rfl, by show depthD (.str s) ≤ _; unfold depthD; omega⟩
      show Pur (.str s)
      unfold Pur
      exact hs s (h.pl.mem_iff.mp (List.mem_filterMap.mpr ⟨_, hi, rfl⟩))
    | inr q => exact (h.ok q hi).2
  have p := purL_of fun x hx => (m x hx).1
  have al := allAtL_of fun x hx => (m x hx).2.1
  have dp := depthL_le fun x hx => (m x hx).2.2
  refine ⟨⟨?_, ?_, rfl, ?_⟩, ⟨?_, ?_, rfl, ?_⟩⟩
  · unfold Pur; exact ⟨p, by rw [List.length_map]; exact hl⟩
  · unfold allAt; rw [al]; simp
  · unfold depthD; omega
  · unfold Pur; exact ⟨p, by rw [List.length_map]; exact hl⟩
  · unfold allAt; exact al
  · unfold depthD; omega
theorem Iv.pres {t n : Nat} {l : Lv (n + 1)} {a : List (It n)} (h : Iv t n l l.inn a) : Pres (n + 1) (.lst t (a.map itD)) l ∧ Pres (n + 1) (.tup (a.map itD)) l :=
  ⟨⟨a, rfl, h.pl, h.tb, fun q hq => (h.ok q hq).1⟩, ⟨a, rfl, h.pl, h.tb, fun q hq => (h.ok q hq).1⟩⟩
theorem sl_from {xs : List D} {k : Nat} (h : k ≤ xs.length) : sliced (.own (.lst xs)) (some (k : Int)) none = some (.new (.lst (xs.drop k))) := by
  show some (W.new (.lst (cut xs (some (k : Int)) none))) = _
  unfold cut sIx
  dsimp only
  rw [if_neg (by omega), Int.toNat_natCast, Nat.min_eq_left h, List.take_of_length_le (by rw [List.length_drop]; omega)]
theorem sl_to {xs : List D} {k : Nat} (h : k ≤ xs.length) : sliced (.own (.lst xs)) none (some (k : Int)) = some (.new (.lst (xs.take k))) := by
  show some (W.new (.lst (cut xs none (some (k : Int))))) = _
  unfold cut sIx
  dsimp only
  rw [if_neg (by omega), Int.toNat_natCast, Nat.min_eq_left h]
  rfl
theorem rv_own {xs : List D} : reved (.own (.lst xs)) = some (.new (.lst xs.reverse)) := rfl
theorem given_c : ∀ (n N t v u : Nat) (l : Lv n) (st : List D), IsSt st → Wf n l → Ns n l → (nms n l).length ≤ 100 → C (N + n + 1) t 6 [.own (.lst st), .d (encM v u n l)] fun w fin => ∃ st', IsSt st' ∧ fin = [some (.own (.lst st')), none] ∧ Pres n (fz t w) l ∧ Od t n (fz t w)
  | 0, N, t, v, u, l, _, _, _, _, _ => Empty.elim l
  | n + 1, N, t, v, u, l, st, hst, hw, h, hl => by
    obtain ⟨w1, w2, w3, w4⟩ := hw
    obtain ⟨hd, hn2⟩ := h.inn
    have hlen : (l.pl.length + l.inn.length) ≤ (nms (n + 1) l).length := Sm.len ⟨hl, h.2⟩
    have hpl : 0 < l.pl.length := List.length_pos_iff.mpr w1
    have pok : ∀ x ∈ l.pl, sOk x := fun x hx => (h.2 x (by have : nms (n + 1) l = l.pl ++ low n l.inn := rfl; rw [this]; exact List.mem_append_left _ hx)).ok
    refine cs_of (n := N + n + 1) (d := f__law_given) rfl rfl rfl ?_
    show Wp (execs _ _ _ _ f__law_given.body) ⟨t, [some (.own (.lst st)), some (.d (encM v u (n + 1) l)), none, none, none, none]⟩ _
    unfold f__law_given
    rw [encM]
    dsimp only
    refine ws_cut 2 (fun e => ∃ (st' : List D) (its : List (It n)) (x y z : Option Sl), IsSt st' ∧ Iv t n l l.inn its ∧ e = ⟨t, [some (.own (.lst st')), some (.d (encM v u (n + 1) l)), some (.own (.lst (its.map itD))), x, y, z]⟩) ?_ ?_
    · dsimp only [List.take]
      walk_at "ev"
      refine wp_forMapN (fun (done : List (Str × Lv n)) e => ∃ (st' : List D) (its : List (It n)) (x y z : Option Sl), IsSt st' ∧ Iv t n l done its ∧ e = ⟨t, [some (.own (.lst st')), some (.d (encM v u (n + 1) l)), some (.own (.lst (its.map itD))), x, y, z]⟩) ⟨st, l.pl.map .inl, none, none, none, hst, ⟨?_, ?_, fun q hq => ?_⟩, by rw [encM, List.map_map]; rfl⟩ ?_ ?_
      · rw [List.filterMap_map]
        show (List.filterMap (itPl (n := n) ∘ Sum.inl) l.pl).Perm l.pl
        have e : (itPl (n := n) ∘ Sum.inl : Str → Option Str) = some := rfl
        rw [e, List.filterMap_some]
      · rw [List.filterMap_map]
        have e : (itTb (n := n) ∘ Sum.inl : Str → Option (Str × Lv n)) = fun _ => none := rfl
        rw [e]
        simp
      · simp at hq
      · rintro e ⟨st', its, x, y, z, hs, hv, rfl⟩
        walk_at "ev"
        exact ⟨st', its, x, y, z, hs, hv, rfl⟩
      · rintro done p rest e hq ⟨st', its, x, y, z, hs, hv, rfl⟩
        have hpm : p ∈ l.inn := by rw [hq]; simp
        have hil := hv.len
        have hdl : done.length < l.inn.length := by rw [hq]; simp
        rw [bind_one]
        walk_at "ev"
        refine wp_call (given_c n N t u u p.2 st' hs (w4 p hpm) (hn2 p hpm).2 (by have := (Sm.inn ⟨hl, h.2⟩ hpm).2.2; omega)) rfl (by simp [refsOf]) ?_
        rintro w fin ⟨st2, hs2, rfl, k1, k2⟩
        walk_at "ev"
        rw [frz_fz]
        walk_at "ev"
        refine wp_drawN (i := 0) rfl hs2 (by omega) fun r st3 hr hs3 => ?_
        walk_at "ev"
        have ins : ∀ (d : D) (a : Nat) (st4 : List D), isPair d p.1 (fz t w) → allAt t d = true → Pur d → depthD d ≤ 2 * n → a ≤ its.length → IsSt st4 → Iv t n l (done ++ [p]) (its.take a ++ [.inr (d, p.1, p.2)] ++ its.drop a) := by
          intro d a st4 hpd hat hpu hdp ha _
          have pm : (its.take a ++ [Sum.inr (d, p.1, p.2)] ++ its.drop a : List (It n)).Perm (its ++ [.inr (d, p.1, p.2)]) := by
            rw [List.append_assoc]
            refine (List.Perm.append_left _ List.perm_append_comm).trans ?_
            rw [← List.append_assoc, List.take_append_drop]
          refine Iv.perm ⟨?_, ?_, fun q hq => ?_⟩ pm
          · rw [pl_inr]; exact hv.pl
          · rw [tb_inr]; exact hv.tb.append_right _
          · rcases List.mem_append.mp hq with z | z
            · exact hv.ok q z
            · rw [List.mem_singleton] at z
              cases z
              exact ⟨⟨_, hpd, k1⟩, hpu, hat, hdp⟩
        have pp1 : Pur (.lst t [.str p.1, fz t w]) ∧ Pur (.tup [.str p.1, fz t w]) := by
          have : PurL [.str p.1, fz t w] := purL_of fun x hx => by
            simp only [List.mem_cons, List.mem_nil_iff, or_false] at hx
            rcases hx with rfl | rfl
            · unfold Pur; exact (hn2 p hpm).1.ok
            · exact k2.pur
          exact ⟨by unfold Pur; exact ⟨this, by simp⟩, by unfold Pur; exact ⟨this, by simp⟩⟩
        have pp2 : allAt t (.lst t [.str p.1, fz t w]) = true ∧ allAt t (.tup [.str p.1, fz t w]) = true := by
          have : allAtL t [.str p.1, fz t w] = true := allAtL_of fun x hx => by
            simp only [List.mem_cons, List.mem_nil_iff, or_false] at hx
            rcases hx with rfl | rfl
            · rfl
            · exact k2.at_
          exact ⟨by unfold allAt; rw [this]; simp, by unfold allAt; exact this⟩
        have pp3 : depthD (.lst t [.str p.1, fz t w]) ≤ 2 * n ∧ depthD (.tup [.str p.1, fz t w]) ≤ 2 * n := by
          have d0 := k2.dp
          have : depthL [.str p.1, fz t w] ≤ 2 * n - 1 := depthL_le fun x hx => by
            simp only [List.mem_cons, List.mem_nil_iff, or_false] at hx
            rcases hx with rfl | rfl
            · unfold depthD; omega
            · omega
          exact ⟨by unfold depthD; omega, by unfold depthD; omega⟩
        refine ⟨fun _ => ?_, fun _ => ?_⟩
        all_goals walk_at "ev"
        all_goals refine wp_drawN (i := 0) rfl hs3 (by simp; omega) fun a st4 ha hs4 => ?_
        all_goals walk_at "ev"
        all_goals rw [List.length_map] at ha
        all_goals refine ⟨fun _ => ?_, fun hx => absurd ⟨by rw [List.length_map]; omega, by omega, by omega⟩ hx⟩
        · exact ⟨st4, its.take a ++ [.inr (.tup [.str p.1, fz t w], p.1, p.2)] ++ its.drop a, _, _, _, hs4, ins _ a st4 (.inr rfl) pp2.2 pp1.2 pp3.2 (by omega) hs4, by rw [List.map_append, List.map_append, List.map_take, List.map_drop]; rfl⟩
        · exact ⟨st4, its.take a ++ [.inr (.lst t [.str p.1, fz t w], p.1, p.2)] ++ its.drop a, _, _, _, hs4, ins _ a st4 (.inl ⟨t, rfl⟩) pp2.1 pp1.1 pp3.1 (by omega) hs4, by rw [List.map_append, List.map_append, List.map_take, List.map_drop]; rfl⟩
    · rintro e ⟨st', its, x, y, z, hs, hv, rfl⟩
      have hil := hv.len
      dsimp only [List.drop]
      refine ws_cut 3 (fun e => ∃ (st3 : List D) (it2 : List (It n)) (x y z : Option Sl), IsSt st3 ∧ Iv t n l l.inn it2 ∧ e = ⟨t, [some (.own (.lst st3)), some (.d (encM v u (n + 1) l)), some (.own (.lst (it2.map itD))), x, y, z]⟩) ?_ ?_
      · dsimp only [List.take]
        walk_at "ev"
        refine wp_drawN (i := 0) rfl hs (by rw [List.length_map]; omega) fun k st2 hk hs2 => ?_
        rw [List.length_map] at hk
        walk_at "ev"
        rw [sl_from (by rw [List.length_map]; omega)]
        walk_at "ev"
        rw [sl_to (by rw [List.length_map]; omega)]
        walk_at "ev"
        rw [add_own (by simp; omega)]
        walk_at "ev"
        have eit : (its.map itD).drop k ++ (its.map itD).take k = (its.drop k ++ its.take k).map itD := by rw [List.map_append, List.map_drop, List.map_take]
        rw [eit]
        have hv2 : Iv t n l l.inn (its.drop k ++ its.take k) := hv.perm (List.perm_append_comm.trans (by rw [List.take_append_drop]))
        refine wp_drawN (i := 0) rfl hs2 (by omega) fun r st3 hr hs3 => ?_
        walk_at "ev"
        refine ⟨fun hz => ?_, fun hz => ?_⟩
        · rw [rv_own]
          walk_at "ev"
          exact ⟨st3, (its.drop k ++ its.take k).reverse, _, _, _, hs3, hv2.perm (List.reverse_perm _), by rw [List.map_reverse]⟩
        · exact ⟨st3, _, _, _, _, hs3, hv2, rfl⟩
      · rintro e ⟨st3, it2, x, y, z, hs3, hv3, rfl⟩
        have hl3 := hv3.len
        dsimp only [List.drop]
        walk_at "ev"
        refine wp_drawN (i := 0) rfl hs3 (by omega) fun r2 st4 hr2 hs4 => ?_
        walk_at "ev"
        refine ⟨fun _ => ?_, fun _ => ?_⟩
        · exact ⟨st4, hs4, rfl, hv3.pres.2, (hv3.od pok (by omega)).2⟩
        · exact ⟨st4, hs4, rfl, hv3.pres.1, (hv3.od pok (by omega)).1⟩
end MV
set_option maxHeartbeats 4000000
namespace MV
open PySem
local macro_rules | `(tactic| walk_at "ev") => `(tactic| try simp only [brK_open, ↓brU_true, ↓brU_false, wp_ret, wp_bnd, wp_bad, wp_some, wp_none, wp_var, slotK_d, slotK_own, wp_rd_d, wp_rd_new, getK_some, wp_rd_at, wp_frz_d, wp_frz_new, frzK_d, frzK_own, wp_frz_at, wp_sto_d, wp_sto_new, wp_sto_at, wp_setSl, ownK_lst, wp_ownLst, wp_tr, wp_noX,
  wv_cst, wv_glob, wv_ccon, wv_tup, wv_lst, wv_bin, wv_cmp, wv_isNone, wv_notNone, wv_not, wv_and, wv_or, wv_ite, wv_idx, wv_slc, wv_rev, wv_prim, wv_prim2, wv_joinc, wv_isin, wv_call, wv_callL, wv_pop, popK_lst, wv_attr, wv_prop, wv_comp, wv_mk, wv_rng0, wv_chain,
  we_nil, we_cons, wa_nil, wo_none, wo_some, ws_nil, ws_cons, seqK_next, seqK_ret, seqK_brk, seqK_cont, wst_expr, wst_asg, wst_asgT, wst_append, wst_insert, wst_setIx, wst_ret, wst_ite, wst_for, wst_brk, wst_cont, wst_pass, wst_bad,
  get_mk, set_mk, List.getElem?_cons_zero, List.getElem?_cons_succ, Option.join_some, Option.join_none, List.set_cons_zero, List.set_cons_succ,
  Option.bind_some, List.length_cons, List.length_nil, ix_0, ix_1, ix_2, ix_3, ix_4, ix_5, ix_6, ix_7, ix_8, ix_9, ix_10, ix_11, ix_12, ix_13, ix_m1, item_own, item_lst, item_tup, add_int, sub_int, cmp_le, cmp_lt, cmp_gt, cmp_ge, cmp_eqi, cmp_nei, wp_cmp_int, truth_bl, truth_int, out_d, out_new, out_at, outK_own, allOwn_nil, allOwn_cons, isO_own, true_and, and_true, List.contains_cons, List.contains_nil, Bool.or_false, Bool.false_or, Bool.or_self, Bool.true_or, Bool.or_true, wp_primlen_lst, wp_primlen_tup, intOf_int, ty_non_int, ty_non_bool, ty_non_str, ty_non_tuple, ty_non_list, tyOk_non, isNon_non, ty_bl_int, ty_bl_bool, ty_bl_str, ty_bl_tuple, ty_bl_list, tyOk_bl, isNon_bl, ty_int_int, ty_int_bool, ty_int_str, ty_int_tuple, ty_int_list, tyOk_int, isNon_int, ty_str_int, ty_str_bool, ty_str_str, ty_str_tuple, ty_str_list, tyOk_str, isNon_str, ty_tup_int, ty_tup_bool, ty_tup_str, ty_tup_tuple, ty_tup_list, tyOk_tup, isNon_tup, ty_lst_int, ty_lst_bool, ty_lst_str, ty_lst_tuple, ty_lst_list, tyOk_lst, isNon_lst, ty_obj_int, ty_obj_bool, ty_obj_str, ty_obj_tuple, ty_obj_list, tyOk_obj, isNon_obj, ty_own_list, ty_own_tuple, any1, any2, eq_self, decide_true, decide_false, endK_ret, objK_obj, wst_setFld, put_nil, put_ne, objOf_obj, objOf_own, fld_eq, fld_ne, ne_eq, Nat.reduceEqDiff, Nat.reduceBEq, Nat.zero_ne_one, Nat.one_ne_zero, not_false_eq_true, wp_cmp_obj, wp_len_obj, ansB_bl, tupK_tup, wp_items_obj,  Int.toNat_natCast, slW_d, slW_own, setFin_r, setFin_c, setFin_n, wp_items_lst, wp_items_tup, wp_items_str, bind_one, bind_two, toD_lst, wp_primlen_own, wp_primlen_at', lenK_lst, wp_primlen_str, pr_list, pr_tuple, pr_sorted, pr_max, pr_int, list_lst, list_tup, list_own, list_scr, tuple_lst, tuple_own, tuple_tup, int_int, wp_cmp_str, wp_cmp_bl, cmp_eqb, wa_ref', refK_own, wa_var, wa_cst, wa_lst, wa_tup, wa_idx, wa_bin, wa_call, wa_prim, wa_slc, wa_attr, wa_ite, wa_cmp, wa_comp, wa_rev, wa_isNone, wa_glob, wa_ccon, wa_prop, wl_ref', wl_newa, newK_new, wl_var, List.map_nil, List.map_cons, List.append_nil, decide_eq_true_eq, Bool.false_eq_true, ↓reduceIte, Bool.not_eq_true, Bool.not_true, Bool.not_false])
def need : Nat → Nat
  | 2 => 1
  | 3 => 4
  | 4 => 9
  | _ => 0
theorem pop_rev {e : Env} {i : Nat} {Q : W → Env → Prop} {x : Str} {r : List Str} : popK e i Q (some (.own (.lst (((x :: r).reverse).map D.str)))) = Q (.d (.str x)) (e.set i (some (.own (.lst (r.reverse.map D.str))))) := by
  rw [List.reverse_cons, List.map_append]
  exact popK_lst
def mkLv {n : Nat} (a : List Str) (b : List (Str × Lv n)) : Lv (n + 1) := ((a, b) : List Str × List (Str × Lv n))
theorem low_ge {n : Nat} : ∀ q : List (Str × Lv n), q.length ≤ (low n q).length
  | [] => Nat.zero_le _
  | p :: q => by
    have e : low n (p :: q) = (p.1 :: nms n p.2) ++ low n q := rfl
    rw [e, List.length_append, List.length_cons, List.length_cons]
    have := low_ge q
    omega
theorem level_c : ∀ (n : Nat), 2 ≤ n → n ≤ 4 → ∀ (N t : Nat) (st : List D) (r : List Str), IsSt st → need n ≤ r.length → r.Nodup → r.length ≤ 100 →
    C (N + n + 2) t 10 [.own (.lst st), .own (.lst (r.reverse.map D.str)), .d (.int ((5 - n : Nat) : Int))] fun w fin => ∃ (l : Lv n) (used r' st' : _), fz t w = encL t n l ∧ r = used ++ r' ∧ (nms n l).Perm used ∧ Wf n l ∧ IsSt st' ∧ used.length ≤ need n ∧ fin = [some (.own (.lst st')), some (.own (.lst (r'.reverse.map D.str))), none]
  | 0, h, _ => absurd h (by omega)
  | n + 1, h2, h4 => by
    intro N t st r hst hr hd hl
    refine cs_of (n := N + n + 2) (d := f__law_level) rfl rfl rfl ?_
    show Wp (execs _ _ _ _ f__law_level.body) ⟨t, [some (.own (.lst st)), some (.own (.lst (r.reverse.map D.str))), some (.d (.int ((5 - (n + 1) : Nat) : Int))), none, none, none, none, none, none]⟩ _
    unfold f__law_level
    dsimp only
    -- plain
    refine ws_cut 3 (fun e => ∃ (pl r' : List Str) (st' : List D) (x : Option Sl), pl ≠ [] ∧ r = pl ++ r' ∧ pl.length ≤ 2 ∧ (n = 1 → pl.length = 1) ∧ IsSt st' ∧ e = ⟨t, [some (.own (.lst st')), some (.own (.lst (r'.reverse.map D.str))), some (.d (.int ((5 - (n + 1) : Nat) : Int))), x, some (.own (.lst ((srt pl).map D.str))), none, none, none, none]⟩) ?_ ?_
    · dsimp only [List.take]
      walk_at "ev"
      refine wp_drawN (i := 0) rfl hst (by omega) fun m st2 hm hs2 => ?_
      walk_at "ev"
      have rest : ∀ k : Nat, 1 ≤ k → k ≤ 2 → (n = 1 → k = 1) → k ≤ r.length → Wp (compM 7 (bnd (ev info (callF info fns 0 (N + n + 2)) (.rng (.cst (.int 0)) (.var 3))) fun w => bnd (frz w) fun d => itemsM info (callF info fns 0 (N + n + 2)) d) (eltM (ev info (callF info fns 0 (N + n + 2)) (.pop 1)))) ⟨t, [some (.own (.lst st2)), some (.own (.lst (r.reverse.map D.str))), some (.d (.int ((5 - (n + 1) : Nat) : Int))), some (.d (.int (k : Nat))), none, none, none, none, none]⟩ (fun w e1 => w = .new (.lst ((r.take k).map D.str)) ∧ e1 = ⟨t, [some (.own (.lst st2)), some (.own (.lst ((r.drop k).reverse.map D.str))), some (.d (.int ((5 - (n + 1) : Nat) : Int))), some (.d (.int (k : Nat))), none, none, none, none, none]⟩) := by
        intro k k1 k2 _ k3
        unfold compM
        walk_at "ev"
        refine rngN (by omega) ?_
        walk_at "ev"
        refine wp_compLoop (J := fun rem acc e => ∃ j, j ≤ k ∧ rem.length = k - j ∧ acc = (r.take j).map D.str ∧ e = ⟨t, [some (.own (.lst st2)), some (.own (.lst ((r.drop j).reverse.map D.str))), some (.d (.int ((5 - (n + 1) : Nat) : Int))), some (.d (.int (k : Nat))), none, none, none, none, none]⟩) ?_ ?_ _ _ _ ⟨0, by omega, by rw [rangeD_len]; omega, rfl, rfl⟩
        · rintro acc e ⟨j, j1, j2, rfl, rfl⟩
          have : j = k := by simp at j2; omega
          subst this
          walk_at "ev"
        · rintro y ys acc e ⟨j, j1, j2, rfl, rfl⟩
          rw [List.length_cons] at j2
          have hj : j < r.length := by omega
          rw [List.drop_eq_getElem_cons hj, wp_elt, set_mk]
          walk_at "ev"
          rw [pop_rev]
          walk_at "ev"
          refine ⟨by simp; omega, j + 1, by omega, by omega, ?_, rfl⟩
          rw [List.take_succ_eq_append_getElem hj, List.map_append]; rfl
      have hneed : need (n + 1) ≤ r.length ∧ (n = 1 → need (n + 1) = 1) ∧ (n ≠ 1 → 2 ≤ need (n + 1)) := by
        refine ⟨hr, fun e => by subst e; rfl, fun e => ?_⟩
        rcases (show n = 2 ∨ n = 3 by omega) with rfl | rfl <;> decide
      refine ⟨fun hz => ?_, fun hz => ?_⟩
      · have hn1 : n = 1 := by omega
        refine (rest 1 (by omega) (by omega) (fun _ => rfl) (by have := hneed.2.1 hn1; omega)).mono ?_
        rintro w e1 ⟨rfl, rfl⟩
        walk_at "ev"
        rw [sorted_strs (xs := r.take 1) rfl]
        walk_at "ev"
        have hl1 : (r.take 1).length = 1 := by rw [List.length_take]; have := hneed.2.1 hn1; omega
        exact ⟨r.take 1, r.drop 1, st2, _, (by intro z; rw [z] at hl1; cases hl1), (List.take_append_drop 1 r).symm, by omega, fun _ => hl1, hs2, rfl⟩
      · have hn1 : n ≠ 1 := by omega
        have ek : (1 : Int) + (m : Int) = ((1 + m : Nat) : Int) := by omega
        rw [ek]
        refine (rest (1 + m) (by omega) (by omega) (fun e => absurd e hn1) (by have := hneed.2.2 hn1; omega)).mono ?_
        rintro w e1 ⟨rfl, rfl⟩
        walk_at "ev"
        rw [sorted_strs (xs := r.take (1 + m)) rfl]
        walk_at "ev"
        have hl1 : (r.take (1 + m)).length = 1 + m := by rw [List.length_take]; have := hneed.2.2 hn1; omega
        exact ⟨r.take (1 + m), r.drop (1 + m), st2, _, (by intro z; rw [z] at hl1; simp at hl1; omega), (List.take_append_drop _ r).symm, by omega, fun e => absurd e hn1, hs2, rfl⟩
    · rintro e ⟨pl, r', st', x, p1, p2, p3, p4, hs', rfl⟩
      dsimp only [List.drop]
      refine ws_cut 3 (fun e => ∃ (tb : Nat) (st2 : List D), tb ≤ 2 ∧ (n = 1 → tb = 0) ∧ (n = 2 → tb ≤ 1) ∧ IsSt st2 ∧ e = ⟨t, [some (.own (.lst st2)), some (.own (.lst (r'.reverse.map D.str))), some (.d (.int ((5 - (n + 1) : Nat) : Int))), x, some (.own (.lst ((srt pl).map D.str))), some (.d (.int (tb : Nat))), none, none, none]⟩) ?_ ?_
      · dsimp only [List.take]
        walk_at "ev"
        refine ⟨fun hz => ?_, fun hz => ?_⟩
        · have hn3 : n = 3 := by omega
          refine wp_pick (i := 0) rfl hs' (by simp only [List.length_cons, List.length_nil]; omega) fun y st2 hy hs2 => ?_
          obtain ⟨tb, rfl, htb⟩ : ∃ tb : Nat, y = .int tb ∧ tb ≤ 2 := by
            simp only [List.mem_cons, List.mem_nil_iff, or_false] at hy
            rcases hy with rfl | rfl | rfl
            · exact ⟨1, rfl, by decide⟩
            · exact ⟨2, rfl, by decide⟩
            · exact ⟨0, rfl, by decide⟩
          walk_at "ev"
          refine ⟨fun hz2 => absurd hz2 (by omega), fun _ => ?_⟩
          exact ⟨tb, st2, htb, fun e => by omega, fun e => by omega, hs2, rfl⟩
        · refine ⟨fun hz2 => ?_, fun hz2 => ?_⟩
          · have hn2 : n = 2 := by omega
            refine wp_drawN (i := 0) rfl hs' (by omega) fun tb st2 ht hs2 => ?_
            walk_at "ev"
            exact ⟨tb, st2, by omega, fun e => by omega, fun e => by omega, hs2, rfl⟩
          · have hn2 : n = 1 := by omega
            exact ⟨0, st', by omega, fun e => rfl, fun e => by omega, hs', rfl⟩
      · rintro e ⟨tb, st2, t1, t2, t3, hs2, rfl⟩
        dsimp only [List.drop]
        walk_at "ev"
        refine rngN (by omega) ?_
        unfold rangeD
        refine wp_forMapN (fun (done : List Nat) e => ∃ (inn : List (Str × Lv n)) (used r2 : List Str) (st3 : List D) (a b : Option Sl), r' = used ++ r2 ∧ (low n inn).Perm used ∧ (∀ p ∈ inn, Wf n p.2) ∧ IsSt st3 ∧ (done.length = 0 → used = []) ∧ (done.length = 1 → used.length ≤ 1 + need n) ∧ (done.length = 2 → used.length ≤ 3 + need n) ∧ e = ⟨t, [some (.own (.lst st3)), some (.own (.lst (r2.reverse.map D.str))), some (.d (.int ((5 - (n + 1) : Nat) : Int))), x, some (.own (.lst ((srt pl).map D.str))), some (.d (.int (tb : Nat))), some (.own (.lst (inn.map (prL t n)))), a, b]⟩) ⟨[], [], r', st2, none, none, rfl, List.Perm.refl _, (fun p hp => by cases hp), hs2, fun _ => rfl, (fun h => by cases h), (fun h => by cases h), rfl⟩ ?_ ?_
        · rintro e ⟨inn, used, r2, st3, a, b, h1, h2', h3, h4', h5, h6, h7, rfl⟩
          rw [List.length_range] at h5 h6 h7
          have hdn : r'.Nodup := by rw [p2] at hd; exact (List.nodup_append.mp hd).2.1
          have hdu : used.Nodup := by rw [h1] at hdn; exact (List.nodup_append.mp hdn).1
          have hlow : (low n inn).Nodup := h2'.nodup_iff.mpr hdu
          walk_at "ev"
          rw [sorted_L (n := n) (u := t) (by omega) (inn_nodup hlow) rfl]
          walk_at "ev"
          refine ⟨((srt pl, srtP inn) : List Str × List (Str × Lv n)), pl ++ used, r2, st3, rfl, by rw [p2, h1, List.append_assoc], ?_, ⟨?_, srt_sorted _, srtP_sorted _, fun p hp => ?_⟩, h4', ?_, rfl⟩
          · have e : nms (n + 1) ((srt pl, srtP inn) : List Str × List (Str × Lv n)) = srt pl ++ low n (srtP inn) := rfl
            rw [e]
            exact (srt_perm pl).append ((low_perm (srtP_perm inn)).trans h2')
          · intro z
            have z : srt pl = [] := z
            have := (srt_perm pl).length_eq
            rw [z] at this
            exact p1 (List.length_eq_zero_iff.mp this.symm)
          · exact h3 p ((srtP_perm inn).mem_iff.mp hp)
          · rw [List.length_append]
            rcases (show n = 1 ∨ n = 2 ∨ n = 3 by omega) with rfl | rfl | rfl
            · have e5 := h5 (t2 rfl)
              have e4 := p4 rfl
              rw [e5]
              show pl.length + 0 ≤ 1
              omega
            · have e3 := t3 rfl
              show _ ≤ 4
              rcases (show tb = 0 ∨ tb = 1 by omega) with h | h
              · rw [h5 h]; simp; omega
              · have : used.length ≤ 1 + 1 := h6 h
                omega
            · show _ ≤ 9
              rcases (show tb = 0 ∨ tb = 1 ∨ tb = 2 by omega) with h | h | h
              · rw [h5 h]; simp; omega
              · have : used.length ≤ 1 + 4 := h6 h
                omega
              · have : used.length ≤ 3 + 4 := h7 h
                omega
        · rintro done k rest e hq ⟨inn, used, r2, st3, a, b, h1, h2', h3, h4', h5, h6, h7, rfl⟩
          have hk : k = done.length ∧ done.length < tb := by
            have e1 : (List.range tb)[done.length]? = some k := by rw [hq]; simp
            have e2 := congrArg List.length hq
            simp at e2
            rw [List.getElem?_range (by omega)] at e1
            cases e1
            exact ⟨rfl, by omega⟩
          have hn1 : n ≠ 1 := fun e => by have := t2 e; omega
          have hlr : r.length = pl.length + used.length + r2.length := by rw [p2, h1]; simp; omega
          have hdn : r'.Nodup := by rw [p2] at hd; exact (List.nodup_append.mp hd).2.1
          have hd2 : r2.Nodup := by rw [h1] at hdn; exact (List.nodup_append.mp hdn).2.1
          rw [bind_one]
          cases r2 with
          | nil =>
            exfalso
            simp at hlr
            rcases (show n = 2 ∨ n = 3 by omega) with rfl | rfl
            · have e3 := t3 rfl
              have : used = [] := h5 (by omega)
              rw [this] at hlr
              have : 4 ≤ r.length := hr
              simp at hlr
              omega
            · have : 9 ≤ r.length := hr
              rcases (show done.length = 0 ∨ done.length = 1 by omega) with h | h
              · rw [h5 h] at hlr; simp at hlr; omega
              · have : used.length ≤ 1 + 4 := h6 h
                omega
          | cons x0 r3 =>
            walk_at "ev"
            rw [pop_rev]
            walk_at "ev"
            refine ⟨fun hz => ?_, fun hz => ?_⟩
            · have hd0 : done.length = 0 := by omega
              have eu := h5 hd0
              subst eu
              have ed : ((5 - (n + 1) : Nat) : Int) + 1 = ((5 - n : Nat) : Int) := by omega
              rw [ed]
              have hneed : need n ≤ r3.length := by
                simp at hlr
                rcases (show n = 2 ∨ n = 3 by omega) with rfl | rfl
                · have : 4 ≤ r.length := hr
                  show 1 ≤ _; omega
                · have : 9 ≤ r.length := hr
                  show 4 ≤ _; omega
              refine wp_call (level_c n (by omega) (by omega) N t st3 r3 h4' hneed (List.nodup_cons.mp hd2).2 (by simp at hlr; omega)) rfl (by simp [refsOf]) ?_
              rintro w fin ⟨l1, u1, r4, st4, k1, k2, k3, k4, k5, k6, rfl⟩
              walk_at "ev"
              rw [frz_fz, k1]
              walk_at "ev"
              have hinn : inn = [] := by
                cases inn with
                | nil => rfl
                | cons p q => exact absurd h2'.length_eq (by unfold low; simp)
              subst hinn
              refine ⟨fun _ => ?_, fun hx => absurd (by simp) hx⟩
              refine ⟨[(x0, l1)], x0 :: u1, r4, st4, _, _, by rw [h1, k2]; rfl, ?_, ?_, k5, ?_, ?_, ?_, rfl⟩
              · unfold low; simp only [List.map_cons, List.map_nil, List.flatten_cons, List.flatten_nil, List.append_nil]
                exact k3.cons x0
              · intro p hp
                rw [List.mem_singleton] at hp
                subst hp; exact k4
              · intro h; simp at h
              · intro h; rw [List.length_cons]; omega
              · intro h; simp at h; omega
            · have hd1 : done.length = 1 := by omega
              have hn3 : n = 3 := by
                rcases (show n = 2 ∨ n = 3 by omega) with h | h
                · have := t3 h; omega
                · exact h
              subst hn3
              have e6 : used.length ≤ 1 + 4 := h6 hd1
              have e9 : 9 ≤ r.length := hr
              cases r3 with
              | nil => exfalso; simp at hlr; omega
              | cons x1 r4 =>
                rw [pop_rev]
                walk_at "ev"
                refine ⟨fun _ => ?_, fun hx => absurd ?_ hx⟩
                · refine ⟨inn ++ [(x0, mkLv (n := 2) [x1] [])], used ++ [x0, x1], r4, st3, some (.d (.int (k : Int))), some (.d (.str x0)), by rw [h1]; simp, ?_, ?_, h4', ?_, ?_, ?_, ?_⟩
                  · rw [low_app]
                    exact h2'.append (List.Perm.refl _)
                  · intro p hp
                    rcases List.mem_append.mp hp with h | h
                    · exact h3 p h
                    · rw [List.mem_singleton] at h
                      subst h
                      exact ⟨(by intro z; cases z), List.pairwise_singleton _ _, List.Pairwise.nil, (fun q hq => by cases hq)⟩
                  · intro h; simp at h
                  · intro h; exfalso; rw [List.length_append, hd1] at h; cases h
                  · intro _; rw [List.length_append]; show used.length + 2 ≤ 3 + 4; omega
                  · rw [List.map_append]; rfl
                · have := h2'.length_eq
                  have c : inn.length ≤ (low 3 inn).length := by
                    exact low_ge inn
                  rw [List.length_map]; omega
end MV
set_option maxHeartbeats 4000000
namespace MV
open PySem
local macro_rules | `(tactic| walk_at "ev") => `(tactic| try simp only [brK_open, ↓brU_true, ↓brU_false, wp_ret, wp_bnd, wp_bad, wp_some, wp_none, wp_var, slotK_d, slotK_own, wp_rd_d, wp_rd_new, getK_some, wp_rd_at, wp_frz_d, wp_frz_new, frzK_d, frzK_own, wp_frz_at, wp_sto_d, wp_sto_new, wp_sto_at, wp_setSl, ownK_lst, wp_ownLst, wp_tr, wp_noX,
  wv_cst, wv_glob, wv_ccon, wv_tup, wv_lst, wv_bin, wv_cmp, wv_isNone, wv_notNone, wv_not, wv_and, wv_or, wv_ite, wv_idx, wv_slc, wv_rev, wv_prim, wv_prim2, wv_joinc, wv_isin, wv_call, wv_callL, wv_pop, popK_lst, wv_attr, wv_prop, wv_comp, wv_mk, wv_rng0, wv_chain,
  we_nil, we_cons, wa_nil, wo_none, wo_some, ws_nil, ws_cons, seqK_next, seqK_ret, seqK_brk, seqK_cont, wst_expr, wst_asg, wst_asgT, wst_append, wst_insert, wst_setIx, wst_ret, wst_ite, wst_for, wst_brk, wst_cont, wst_pass, wst_bad,
  get_mk, set_mk, List.getElem?_cons_zero, List.getElem?_cons_succ, Option.join_some, Option.join_none, List.set_cons_zero, List.set_cons_succ,
  Option.bind_some, List.length_cons, List.length_nil, ix_0, ix_1, ix_2, ix_3, ix_4, ix_5, ix_6, ix_7, ix_8, ix_9, ix_10, ix_11, ix_12, ix_13, ix_m1, item_own, item_lst, item_tup, add_int, sub_int, cmp_le, cmp_lt, cmp_gt, cmp_ge, cmp_eqi, cmp_nei, wp_cmp_int, truth_bl, truth_int, out_d, out_new, out_at, outK_own, allOwn_nil, allOwn_cons, isO_own, true_and, and_true, List.contains_cons, List.contains_nil, Bool.or_false, Bool.false_or, Bool.or_self, Bool.true_or, Bool.or_true, wp_primlen_lst, wp_primlen_tup, intOf_int, ty_non_int, ty_non_bool, ty_non_str, ty_non_tuple, ty_non_list, tyOk_non, isNon_non, ty_bl_int, ty_bl_bool, ty_bl_str, ty_bl_tuple, ty_bl_list, tyOk_bl, isNon_bl, ty_int_int, ty_int_bool, ty_int_str, ty_int_tuple, ty_int_list, tyOk_int, isNon_int, ty_str_int, ty_str_bool, ty_str_str, ty_str_tuple, ty_str_list, tyOk_str, isNon_str, ty_tup_int, ty_tup_bool, ty_tup_str, ty_tup_tuple, ty_tup_list, tyOk_tup, isNon_tup, ty_lst_int, ty_lst_bool, ty_lst_str, ty_lst_tuple, ty_lst_list, tyOk_lst, isNon_lst, ty_obj_int, ty_obj_bool, ty_obj_str, ty_obj_tuple, ty_obj_list, tyOk_obj, isNon_obj, ty_own_list, ty_own_tuple, any1, any2, eq_self, decide_true, decide_false, endK_ret, objK_obj, wst_setFld, put_nil, put_ne, objOf_obj, objOf_own, fld_eq, fld_ne, ne_eq, Nat.reduceEqDiff, Nat.reduceBEq, Nat.zero_ne_one, Nat.one_ne_zero, not_false_eq_true, wp_cmp_obj, wp_len_obj, ansB_bl, tupK_tup, wp_items_obj,  Int.toNat_natCast, slW_d, slW_own, setFin_r, setFin_c, setFin_n, wp_items_lst, wp_items_tup, wp_items_str, bind_one, bind_two, toD_lst, wp_primlen_own, wp_primlen_at', lenK_lst, wp_primlen_str, pr_list, pr_tuple, pr_sorted, pr_max, pr_int, list_lst, list_tup, list_own, list_scr, tuple_lst, tuple_own, tuple_tup, int_int, wp_cmp_str, wp_cmp_bl, cmp_eqb, wa_ref', refK_own, wa_var, wa_cst, wa_lst, wa_tup, wa_idx, wa_bin, wa_call, wa_prim, wa_slc, wa_attr, wa_ite, wa_cmp, wa_comp, wa_rev, wa_isNone, wa_glob, wa_ccon, wa_prop, wl_ref', wl_newa, newK_new, wl_var, List.map_nil, List.map_cons, List.append_nil, decide_eq_true_eq, Bool.false_eq_true, ↓reduceIte, Bool.not_eq_true, Bool.not_true, Bool.not_false])
theorem wp_cmp_at {I : Info} {P : Phi} {e : Env} {Q : W → Env → Prop} {o : Cop} {i : Nat} {xs : List D} {y : W} (he : e.get i = some (.own (.lst xs))) : Wp (cmpM I P o (.at_ i) y) e Q = Wp (rd y) e fun t e2 => Wp (optM (cmpop o (.own (.lst xs)) t)) e2 fun b e3 => Q (.d (.bl b)) e3 := by
  rw [wp_cmp (fun s e1 hh => by
    rw [wp_rd_at, he, getK_some] at hh
    obtain ⟨rfl, _⟩ := hh; rfl), wp_rd_at, he, getK_some]
theorem ne_nil {xs : List Str} (h : ∀ x ∈ xs, sOk x) : cmpop .ne (.own (.lst (xs.map D.str))) (.own (.lst [])) = some (!xs.isEmpty) := by
  have e0 := eq_path (u := 0) (path := xs) h
  have e1 : cmpop .ne (.own (.lst (xs.map D.str))) (.own (.lst [])) = (cmpop .eq (.d (.lst 0 (xs.map D.str))) (.own (.lst []))).map fun b => !b := by
    have p1 : (Sl.own (.lst (xs.map D.str))).py = (Sl.d (.lst 0 (xs.map D.str))).py := by
      show PyData.list _ = py _
      rw [py]
    have p2 : (Sl.own (.lst (xs.map D.str))).isPy = (Sl.d (.lst 0 (xs.map D.str))).isPy := by
      show isPyL _ = isPy _
      rw [isPy]
    unfold cmpop
    dsimp only
    rw [p1, p2]
    split <;> rfl
  rw [e1, e0]; rfl
theorem item_last {α : Type} {f : α → D} {hs : List α} (h : hs ≠ []) : ∃ x ∈ hs, item (.own (.lst (hs.map f))) (.d (.int (-1))) = some (f x) := by
  obtain ⟨a, b, rfl⟩ : ∃ a b, hs = a ++ [b] := ⟨_, _, (List.dropLast_concat_getLast h).symm⟩
  refine ⟨b, by simp, ?_⟩
  rw [item_own, List.length_map, List.length_append, List.length_cons, List.length_nil, ix_m1, Option.bind_some, List.map_append, List.getElem?_append_right (by simp)]
  simp
/-- a level that grows, with its spare names -/
structure Gi (U : List Str) (l : Lv 4) (r : List Str) : Prop where
  wf : Wf 4 l
  nd : (nms 4 l ++ r).Nodup
  nm : ∀ x ∈ nms 4 l ++ r, Nm x
  le : (nms 4 l).length + r.length ≤ 12
  un : ∀ x ∈ nms 4 l ++ r, x ∈ U
theorem Gi.ns {U : List Str} {l : Lv 4} {r : List Str} (h : Gi U l r) : Ns 4 l := ⟨(List.nodup_append.mp h.nd).1, fun x hx => h.nm x (List.mem_append_left _ hx)⟩
theorem Gi.next {U : List Str} {l l' : Lv 4} {r ex r' : List Str} (h : Gi U l r) (w : Wf 4 l') (p : (nms 4 l').Perm (nms 4 l ++ ex)) (e : r.Perm (ex ++ r')) : Gi U l' r' := by
  have pp : (nms 4 l' ++ r').Perm (nms 4 l ++ r) := (p.append_right r').trans (by
    rw [List.append_assoc]
    exact List.Perm.append_left _ e.symm)
  refine ⟨w, pp.nodup_iff.mpr h.nd, fun x hx => h.nm x (pp.mem_iff.mp hx), ?_, fun x hx => h.un x (pp.mem_iff.mp hx)⟩
  have := pp.length_eq
  simp only [List.length_append] at this
  have := h.le
  omega
theorem sto_slW {w : Sl} {e : Env} {Q : Sl → Env → Prop} : Wp (sto (slW w)) e Q = Q w e := by
  cases w with
  | d x => exact wp_sto_d
  | own c => exact wp_sto_new
theorem WPth.nlen {n m : Nat} {l : Lv n} {path : List Str} {s : Lv m} {f : Lv m → Lv n} (h : WPth n l path m s f) : (MV.nms m s).length ≤ (MV.nms n l).length := by
  induction h with
  | nil => exact Nat.le_refl _
  | @cons n m l a b p path s f h t ih =>
    have el : MV.nms (n + 1) l = l.pl ++ (low n a ++ ((p.1 :: MV.nms n p.2) ++ low n b)) := by
      rw [← nms_mid, ← h]; rfl
    rw [el]
    simp only [List.length_append, List.length_cons]
    omega
theorem WPth.nodup {n m : Nat} {l : Lv n} {path : List Str} {s : Lv m} {f : Lv m → Lv n} (h : WPth n l path m s f) (hd : (MV.nms n l).Nodup) : (MV.nms m s).Nodup := by
  induction h with
  | nil => exact hd
  | @cons n m l a b p path s f h t ih =>
    have el : MV.nms (n + 1) l = l.pl ++ (low n a ++ ((p.1 :: MV.nms n p.2) ++ low n b)) := by
      rw [← nms_mid, ← h]; rfl
    rw [el] at hd
    exact ih (List.nodup_cons.mp (List.nodup_append.mp (List.nodup_append.mp (List.nodup_append.mp hd).2.1).2.1).1).2
theorem grow_step {U : List Str} {N t : Nat} {l : Lv 4} {r : List Str} {st : List D} {s1 : Sl} {mode k : Int} {a b c d e5 : Option Sl} (hst : IsSt st) (h : Gi U l r) (hs1 : fz t s1 = encL t 4 l) :
    Wp (execs info (callF info fns 0 (N + 5)) [0, 2] 0 (match f__law_grown.body with | [_, .for_ _ _ _ bd, _] => bd | _ => [])) ⟨t, [some (.own (.lst st)), some s1, some (.own (.lst (r.reverse.map D.str))), some (.d (.int mode)), some (.d (.int k)), a, b, c, d, e5]⟩ fun fl e => fl = .next ∧ ∃ (l' : Lv 4) (r' : List Str) (st' : List D) (s1' : Sl) (a b c d e5 : Option Sl), IsSt st' ∧ Gi U l' r' ∧ fz t s1' = encL t 4 l' ∧ e = ⟨t, [some (.own (.lst st')), some s1', some (.own (.lst (r'.reverse.map D.str))), some (.d (.int mode)), some (.d (.int k)), a, b, c, d, e5]⟩ := by
  unfold f__law_grown
  dsimp only
  have hle := h.le
  refine ws_cut 1 (fun e => ∃ (hs : List (List Str)), hs ≠ [] ∧ hs.length ≤ 100 ∧ (∀ h ∈ hs, IsHome 4 l h) ∧ e = ⟨t, [some (.own (.lst st)), some (.d (encL t 4 l)), some (.own (.lst (r.reverse.map D.str))), some (.d (.int mode)), some (.d (.int k)), some (.own (.lst (hs.map fun h => D.lst t (h.map .str)))), b, c, d, e5]⟩) ?_ ?_
  · dsimp only [List.take]
    have hh := homes_c 4 (N + 1) t l [] (by omega) (by simp)
    have fin : ∀ {Q : W → Env → Prop} {e : Env}, e.t = t → (∀ hs : List (List Str), hs ≠ [] → hs.length ≤ 100 → (∀ h ∈ hs, IsHome 4 l h) → Q (.new (.lst (hs.map fun h => D.lst t (h.map .str)))) e) → Wp (callM (callF info fns 0 (N + 5)) 21 [.d (encL t 4 l), .d (.lst t [])]) e Q := fun {Q e} he kk => by
      refine wp_callS [encL t 4 l, .lst t (([] : List Str).map D.str)] (by rw [he]; exact hh) ?_
      rintro w fin ⟨hs, rfl, h1, h2, h3⟩
      refine kk hs h1 (by omega) fun x hx => ?_
      obtain ⟨path, e1, hp⟩ := h3 x hx
      rw [List.nil_append] at e1
      rw [e1]; exact hp
    cases s1 with
    | d x =>
      have hs1 : x = encL t 4 l := hs1
      subst hs1
      walk_at "ev"
      refine fin rfl fun hs h1 h2 h3 => ?_
      walk_at "ev"
      exact ⟨hs, h1, h2, h3, rfl⟩
    | own cc =>
      have hs1 : cc.toD t = encL t 4 l := hs1
      walk_at "ev"
      rw [hs1]
      refine fin rfl fun hs h1 h2 h3 => ?_
      walk_at "ev"
      exact ⟨hs, h1, h2, h3, rfl⟩
  · rintro e ⟨hs, g1, g2, g3, rfl⟩
    dsimp only [List.drop]
    refine ws_cut 3 (fun e => ∃ (path : List Str) (dp : Int) (st' : List D) (a : Option Sl), IsHome 4 l path ∧ IsSt st' ∧ e = ⟨t, [some (.own (.lst st')), some (.d (encL t 4 l)), some (.own (.lst (r.reverse.map D.str))), some (.d (.int mode)), some (.d (.int k)), a, some (.d (.lst t (path.map .str))), some (.d (.int dp)), d, e5]⟩) ?_ ?_
    · dsimp only [List.take]
      obtain ⟨x, hx, ex⟩ := item_last (f := fun h : List Str => D.lst t (h.map .str)) g1
      rw [item_own] at ex
      walk_at "ev"
      rw [ex]
      walk_at "ev"
      refine ⟨fun hz => ?_, fun hz => ?_⟩
      · refine wp_pick (i := 0) rfl hst (by rw [List.length_map]; have := List.length_pos_iff.mpr g1; omega) fun y st2 hy hs2 => ?_
        obtain ⟨p2, hp2, rfl⟩ := List.mem_map.mp hy
        walk_at "ev"
        refine wp_drawN (i := 0) rfl hs2 (by omega) fun dp st3 _ hs3 => ?_
        walk_at "ev"
        exact ⟨p2, dp, st3, _, g3 p2 hp2, hs3, rfl⟩
      · exact ⟨x, 1, st, _, g3 x hx, hst, rfl⟩
    · rintro e ⟨path, dp, st', a, ⟨m, s, f, hp⟩, hs', rfl⟩
      dsimp only [List.drop]
      have hns := h.ns
      have hlen := hp.len
      obtain ⟨ws, wf⟩ := hp.wf h.wf
      obtain ⟨sub, perm⟩ := hp.nms
      cases m with
      | zero => exact Empty.elim s
      | succ m =>
      have sns : Ns (m + 1) s := by
        refine ⟨?_, fun x hx => hns.2 x (sub x hx)⟩
        exact hp.nodup hns.1
      have snm := sns.2
      have slen : s.pl.length + s.inn.length ≤ (nms (m + 1) s).length ∧ (nms (m + 1) s).length ≤ 12 := by
        have a1 : (nms (m + 1) s).length ≤ (nms 4 l).length := hp.nlen
        refine ⟨Sm.len ⟨by omega, snm⟩, by omega⟩
      have spok : ∀ x ∈ s.pl, sOk x := fun x hx => (snm x (by have : nms (m + 1) s = s.pl ++ low m s.inn := rfl; rw [this]; exact List.mem_append_left _ hx)).ok
      walk_at "ev"
      refine wp_callD2 (at_c (N := N + 3) hp hns) ?_
      walk_at "ev"
      -- what follows a replacement
      have repl : ∀ {Q : W → Env → Prop} {e : Env} (s' : Lv (m + 1)), e.t = t → (∀ w, fz t w = encL t 4 (f s') → Q (slW w) e) → Wp (callM (callF info fns 0 (N + 5)) 22 [.d (encL t 4 l), .d (.lst t (path.map D.str)), .d (encL t (m + 1) s')]) e Q := fun {Q e} s' he kk => by
        refine wp_callS [encL t 4 l, .lst t (path.map D.str), encL t (m + 1) s'] (by rw [he]; exact with_c 4 N t (m + 1) l path s s' f hp hns (by omega)) ?_
        intro w fin hw
        exact kk w hw
      have i0 : item (.d (encL t (m + 1) s)) (.d (.int 0)) = some (.lst t (s.pl.map .str)) := rfl
      have i1 : item (.d (encL t (m + 1) s)) (.d (.int 1)) = some (.lst t (s.inn.map (prL t m))) := rfl
      refine ⟨fun h1 => ⟨fun h2 => ⟨fun h3 => ?_, fun h3 => ?_⟩, fun h2 => ⟨fun hz => absurd hz h2, fun _ => ?_⟩⟩, fun h1 => ⟨fun hz => absurd hz h1, fun _ => ?_⟩⟩
      · rw [List.length_map] at h2
        rw [List.length_map, List.length_reverse] at h3
        cases m with
        | zero => omega
        | succ m =>
        cases r with
        | nil => simp at h3
        | cons x0 r =>
        cases r with
        | nil => simp at h3
        | cons x1 r' =>
          rw [pop_rev]
          walk_at "ev"
          rw [i0]
          walk_at "ev"
          rw [i1]
          walk_at "ev"
          rw [pop_rev]
          walk_at "ev"
          rw [add_lo (by simp; omega)]
          walk_at "ev"
          have eq1 : s.inn.map (prL t (m + 1)) ++ [D.lst t [.str x1, .lst t [.lst t [.str x0], .lst t []]]] = (s.inn ++ [(x1, mkLv (n := m) [x0] [])]).map (prL t (m + 1)) := by rw [List.map_append]; rfl
          have pl1 : (low (m + 1) (s.inn ++ [(x1, mkLv (n := m) [x0] [])])) = low (m + 1) s.inn ++ [x1, x0] := by rw [low_app]; rfl
          have nd1 : (low (m + 1) s.inn ++ [x1, x0]).Nodup := by
            have hnd := h.nd
            rw [List.nodup_append] at hnd
            have a1 : (low (m + 1) s.inn).Nodup := by
              have e0 : nms (m + 1 + 1) s = s.pl ++ low (m + 1) s.inn := rfl
              have := sns.1
              rw [e0] at this
              exact (List.nodup_append.mp this).2.1
            rw [List.nodup_append]
            refine ⟨a1, ?_, fun x hx y hy => ?_⟩
            · have := hnd.2.1
              simp only [List.nodup_cons, List.mem_cons, not_or] at this ⊢
              exact ⟨⟨fun z => this.1.1 z.symm, by simp⟩, by simp, List.nodup_nil⟩
            · refine hnd.2.2 x (sub x ?_) y ?_
              · have e0 : nms (m + 1 + 1) s = s.pl ++ low (m + 1) s.inn := rfl
                rw [e0]; exact List.mem_append_right _ hx
              · simp at hy ⊢
                rcases hy with rfl | rfl
                · exact .inr (.inl rfl)
                · exact .inl rfl
          rw [eq1, sorted_L (n := m + 1) (u := t) (by omega) (inn_nodup (by rw [pl1]; exact nd1)) rfl]
          walk_at "ev"
          have e2 : D.lst t [.lst t (s.pl.map .str), .lst t ((srtP (s.inn ++ [(x1, mkLv (n := m) [x0] [])])).map fun p => .lst t [.str p.1, encL t (m + 1) p.2])] = encL t (m + 1 + 1) (mkLv s.pl (srtP (s.inn ++ [(x1, mkLv (n := m) [x0] [])]))) := rfl
          rw [e2]
          refine repl _ rfl fun w hw => ?_
          have npm : (nms (m + 1 + 1) (mkLv s.pl (srtP (s.inn ++ [(x1, mkLv (n := m) [x0] [])])))).Perm (nms (m + 1 + 1) s ++ [x1, x0]) := by
            have e0 : nms (m + 1 + 1) (mkLv s.pl (srtP (s.inn ++ [(x1, mkLv (n := m) [x0] [])]))) = s.pl ++ low (m + 1) (srtP (s.inn ++ [(x1, mkLv (n := m) [x0] [])])) := rfl
            have e3 : nms (m + 1 + 1) s = s.pl ++ low (m + 1) s.inn := rfl
            rw [e0, e3, List.append_assoc, ← pl1]
            exact List.Perm.append_left _ (low_perm (srtP_perm _))
          have nwf : Wf (m + 1 + 1) (mkLv s.pl (srtP (s.inn ++ [(x1, mkLv (n := m) [x0] [])]))) := by
            obtain ⟨w1, w2, w3, w4⟩ := ws
            refine ⟨w1, w2, srtP_sorted _, fun p hp2 => ?_⟩
            have hp2 : p ∈ srtP (s.inn ++ [(x1, mkLv (n := m) [x0] [])]) := hp2
            rw [(srtP_perm _).mem_iff] at hp2
            rcases List.mem_append.mp hp2 with z | z
            · exact w4 p z
            · rw [List.mem_singleton] at z
              subst z
              exact ⟨(by intro z; cases z), List.pairwise_singleton _ _, List.Pairwise.nil, (fun q hq => by cases hq)⟩
          rw [sto_slW]
          walk_at "ev"
          exact ⟨_, r', st', w, _, _, _, _, _, hs', h.next (wf _ nwf) (perm _ _ npm) (List.Perm.swap x1 x0 r'), hw, rfl⟩
      all_goals
        rw [wp_cmp_at rfl]
        walk_at "ev"
        rw [ne_nil (fun x hx => (h.nm x (List.mem_append_right _ (List.mem_reverse.mp hx))).ok)]
        walk_at "ev"
        refine ⟨fun hz => ?_, fun hz => ?_⟩
      all_goals first
        | exact ⟨l, r, st', .d (encL t 4 l), _, _, _, _, _, hs', h, rfl, rfl⟩
        | skip
      all_goals
        cases r with
        | nil => exact absurd hz (by simp)
        | cons x0 r' =>
          rw [i0]
          walk_at "ev"
          rw [pop_rev]
          walk_at "ev"
          rw [add_lo (by simp; omega)]
          walk_at "ev"
          rw [sorted_strs (xs := s.pl ++ [x0]) (by show some _ = _; rw [List.map_append]; rfl)]
          walk_at "ev"
          rw [i1]
          walk_at "ev"
          have e2 : D.lst t [.lst t ((srt (s.pl ++ [x0])).map D.str), .lst t (s.inn.map (prL t m))] = encL t (m + 1) (mkLv (srt (s.pl ++ [x0])) s.inn) := rfl
          rw [e2]
          refine repl _ rfl fun w hw => ?_
          have npm : (nms (m + 1) (mkLv (srt (s.pl ++ [x0])) s.inn)).Perm (nms (m + 1) s ++ [x0]) := by
            have e0 : nms (m + 1) (mkLv (srt (s.pl ++ [x0])) s.inn) = srt (s.pl ++ [x0]) ++ low m s.inn := rfl
            have e3 : nms (m + 1) s = s.pl ++ low m s.inn := rfl
            rw [e0, e3]
            refine ((srt_perm _).append_right _).trans ?_
            rw [List.append_assoc, List.append_assoc]
            exact List.Perm.append_left _ List.perm_append_comm
          have nwf : Wf (m + 1) (mkLv (srt (s.pl ++ [x0])) s.inn) := by
            obtain ⟨w1, w2, w3, w4⟩ := ws
            refine ⟨fun z => ?_, srt_sorted _, w3, w4⟩
            have z : srt (s.pl ++ [x0]) = [] := z
            have := (srt_perm (s.pl ++ [x0])).length_eq
            rw [z] at this
            simp at this
          rw [sto_slW]
          walk_at "ev"
          exact ⟨_, r', st', w, _, _, _, _, _, hs', h.next (wf _ nwf) (perm _ _ npm) (List.Perm.refl _), hw, rfl⟩
theorem grown_c {U : List Str} {N t : Nat} {l : Lv 4} {r : List Str} {st : List D} (hst : IsSt st) (h : Gi U l r) : C (N + 6) t 7 [.own (.lst st), .d (encL t 4 l), .own (.lst (r.reverse.map D.str))] fun w fin => ∃ (l' : Lv 4) (r' : List Str) (st' : List D), fz t w = encL t 4 l' ∧ Gi U l' r' ∧ IsSt st' ∧ fin = [some (.own (.lst st')), none, some (.own (.lst (r'.reverse.map D.str)))] := by
  refine cs_of (n := N + 5) (d := f__law_grown) rfl rfl rfl ?_
  show Wp (execs _ _ _ _ f__law_grown.body) ⟨t, [some (.own (.lst st)), some (.d (encL t 4 l)), some (.own (.lst (r.reverse.map D.str))), none, none, none, none, none, none, none]⟩ _
  refine ws_cut 2 (fun e => ∃ (l' : Lv 4) (r' : List Str) (st' : List D) (s1 : Sl) (m : Int) (k a b c d e5 : Option Sl), fz t s1 = encL t 4 l' ∧ Gi U l' r' ∧ IsSt st' ∧ e = ⟨t, [some (.own (.lst st')), some s1, some (.own (.lst (r'.reverse.map D.str))), some (.d (.int m)), k, a, b, c, d, e5]⟩) ?_ ?_
  · have step := @grow_step U N t
    unfold f__law_grown at step ⊢
    dsimp only [List.take]
    dsimp only at step
    rw [ws_cons]
    walk_at "ev"
    refine wp_drawN (i := 0) rfl hst (by omega) fun m st2 _ hs2 => ?_
    walk_at "ev"
    refine wp_pick (i := 0) rfl hs2 (by simp only [List.length_cons, List.length_nil]; omega) fun y st3 hy hs3 => ?_
    obtain ⟨tb, rfl, htb⟩ : ∃ tb : Nat, y = .int tb ∧ tb ≤ 12 := by
      simp only [List.mem_cons, List.mem_nil_iff, or_false] at hy
      rcases hy with rfl | rfl | rfl | rfl
      · exact ⟨1, rfl, by decide⟩
      · exact ⟨12, rfl, by decide⟩
      · exact ⟨0, rfl, by decide⟩
      · exact ⟨4, rfl, by decide⟩
    walk_at "ev"
    refine rngN (by omega) ?_
    unfold rangeD
    refine wp_forMapN (fun (done : List Nat) e => ∃ (l' : Lv 4) (r' : List Str) (st' : List D) (s1 : Sl) (k a b c d e5 : Option Sl), fz t s1 = encL t 4 l' ∧ Gi U l' r' ∧ IsSt st' ∧ e = ⟨t, [some (.own (.lst st')), some s1, some (.own (.lst (r'.reverse.map D.str))), some (.d (.int (m : Int))), k, a, b, c, d, e5]⟩) ⟨l, r, st3, .d (encL t 4 l), none, none, none, none, none, none, rfl, h, hs3, rfl⟩ ?_ ?_
    · rintro e ⟨l', r', st', s1, k, a, b, c, d, e5, h1, h2, h3, rfl⟩
      walk_at "ev"
      exact ⟨l', r', st', s1, _, k, a, b, c, d, e5, h1, h2, h3, rfl⟩
    · rintro done k rest e hq ⟨l', r', st', s1, k0, a, b, c, d, e5, h1, h2, h3, rfl⟩
      rw [bind_one]
      refine (step (mode := (m : Int)) (k := (k : Int)) (a := a) (b := b) (c := c) (d := d) (e5 := e5) h3 h2 h1).mono ?_
      rintro fl e ⟨rfl, l2, r2, st2, s2, a, b, c, d, e5, k1, k2, k3, rfl⟩
      exact ⟨rfl, l2, r2, st2, s2, _, a, b, c, d, e5, k3, k2, k1, rfl⟩
  · rintro e ⟨l', r', st', s1, m, k, a, b, c, d, e5, h1, h2, h3, rfl⟩
    unfold f__law_grown
    dsimp only [List.drop]
    cases s1 with
    | d x =>
      walk_at "ev"
      exact ⟨l', r', st', h1, h2, h3, rfl⟩
    | own cc =>
      walk_at "ev"
      exact ⟨l', r', st', h1, h2, h3, rfl⟩
end MV
set_option maxHeartbeats 4000000
namespace MV
open PySem
local macro_rules | `(tactic| walk_at "ev") => `(tactic| try simp only [brK_open, ↓brU_true, ↓brU_false, wp_ret, wp_bnd, wp_bad, wp_some, wp_none, wp_var, slotK_d, slotK_own, wp_rd_d, wp_rd_new, getK_some, wp_rd_at, wp_frz_d, wp_frz_new, frzK_d, frzK_own, wp_frz_at, wp_sto_d, wp_sto_new, wp_sto_at, wp_setSl, ownK_lst, wp_ownLst, wp_tr, wp_noX,
  wv_cst, wv_glob, wv_ccon, wv_tup, wv_lst, wv_bin, wv_cmp, wv_isNone, wv_notNone, wv_not, wv_and, wv_or, wv_ite, wv_idx, wv_slc, wv_rev, wv_prim, wv_prim2, wv_joinc, wv_isin, wv_call, wv_callL, wv_pop, popK_lst, wv_attr, wv_prop, wv_comp, wv_mk, wv_rng0, wv_chain,
  we_nil, we_cons, wa_nil, wo_none, wo_some, ws_nil, ws_cons, seqK_next, seqK_ret, seqK_brk, seqK_cont, wst_expr, wst_asg, wst_asgT, wst_append, wst_insert, wst_setIx, wst_ret, wst_ite, wst_for, wst_brk, wst_cont, wst_pass, wst_bad,
  get_mk, set_mk, List.getElem?_cons_zero, List.getElem?_cons_succ, Option.join_some, Option.join_none, List.set_cons_zero, List.set_cons_succ,
  Option.bind_some, List.length_cons, List.length_nil, ix_0, ix_1, ix_2, ix_3, ix_4, ix_5, ix_6, ix_7, ix_8, ix_9, ix_10, ix_11, ix_12, ix_13, ix_m1, item_own, item_lst, item_tup, add_int, sub_int, cmp_le, cmp_lt, cmp_gt, cmp_ge, cmp_eqi, cmp_nei, wp_cmp_int, truth_bl, truth_int, out_d, out_new, out_at, outK_own, allOwn_nil, allOwn_cons, isO_own, true_and, and_true, List.contains_cons, List.contains_nil, Bool.or_false, Bool.false_or, Bool.or_self, Bool.true_or, Bool.or_true, wp_primlen_lst, wp_primlen_tup, intOf_int, ty_non_int, ty_non_bool, ty_non_str, ty_non_tuple, ty_non_list, tyOk_non, isNon_non, ty_bl_int, ty_bl_bool, ty_bl_str, ty_bl_tuple, ty_bl_list, tyOk_bl, isNon_bl, ty_int_int, ty_int_bool, ty_int_str, ty_int_tuple, ty_int_list, tyOk_int, isNon_int, ty_str_int, ty_str_bool, ty_str_str, ty_str_tuple, ty_str_list, tyOk_str, isNon_str, ty_tup_int, ty_tup_bool, ty_tup_str, ty_tup_tuple, ty_tup_list, tyOk_tup, isNon_tup, ty_lst_int, ty_lst_bool, ty_lst_str, ty_lst_tuple, ty_lst_list, tyOk_lst, isNon_lst, ty_obj_int, ty_obj_bool, ty_obj_str, ty_obj_tuple, ty_obj_list, tyOk_obj, isNon_obj, ty_own_list, ty_own_tuple, any1, any2, eq_self, decide_true, decide_false, endK_ret, objK_obj, wst_setFld, put_nil, put_ne, objOf_obj, objOf_own, fld_eq, fld_ne, ne_eq, Nat.reduceEqDiff, Nat.reduceBEq, Nat.zero_ne_one, Nat.one_ne_zero, not_false_eq_true, wp_cmp_obj, wp_len_obj, ansB_bl, tupK_tup, wp_items_obj,  Int.toNat_natCast, slW_d, slW_own, setFin_r, setFin_c, setFin_n, wp_items_lst, wp_items_tup, wp_items_str, bind_one, bind_two, toD_lst, wp_primlen_own, wp_primlen_at', lenK_lst, wp_primlen_str, pr_list, pr_tuple, pr_sorted, pr_max, pr_int, list_lst, list_tup, list_own, list_scr, tuple_lst, tuple_own, tuple_tup, int_int, wp_cmp_str, wp_cmp_bl, cmp_eqb, wa_ref', refK_own, wa_var, wa_cst, wa_lst, wa_tup, wa_idx, wa_bin, wa_call, wa_prim, wa_slc, wa_attr, wa_ite, wa_cmp, wa_comp, wa_rev, wa_isNone, wa_glob, wa_ccon, wa_prop, wl_ref', wl_newa, newK_new, wl_var, List.map_nil, List.map_cons, List.append_nil, decide_eq_true_eq, Bool.false_eq_true, ↓reduceIte, Bool.not_eq_true, Bool.not_true, Bool.not_false])
theorem sl_mid {xs : List D} (h : xs.length = 14) : sliced (.own (.lst xs)) (some 9) (some 12) = some (.new (.lst ((xs.drop 9).take 3))) := by
  show some (W.new (.lst (cut xs (some 9) (some 12)))) = _
  unfold cut sIx
  dsimp only
  rw [if_neg (by omega), if_neg (by omega), h]
  rfl
theorem callL_sem {N t i : Nat} {e : Env} {Q : W → Env → Prop} {U : List Str} {l : Lv 4} {r : List Str} {st : List D} (ht : e.t = t) (he : e.get i = some (.own (.lst st))) (hst : IsSt st) (h : Gi U l r) (k : ∀ w l' r' st', fz t w = encL t 4 l' → Gi U l' r' → IsSt st' → Q (slW w) (e.set i (some (.own (.lst st'))))) : Wp (callLM (callF info fns 0 (N + 6)) 7 [.r i, .d (encL t 4 l)] (.lst (r.reverse.map D.str))) e Q := by
  subst ht
  refine wp_callL (sls := [.own (.lst st), .d (encL e.t 4 l)]) (grown_c hst h) (by unfold argSl; rw [he]; rfl) (by simp [refsOf]) ?_
  rintro w fin ⟨l', r', st', k1, k2, k3, rfl⟩
  exact k w l' r' st' k1 k2 k3
theorem law1 (ns : List Int) : Wp (execs info (callF info fns 0 14) [] 0 (f_law.body.take 5)) ⟨0, [some (.d (.scr ns)), none, none, none, none, none, none, none, none, none, none, none, none, none, none, none, none]⟩ fun fl e => fl = .next ∧ ∃ (st : List D) (nm : List Str) (l : Lv 4) (r : List Str) (s4 : Sl) (sp : Option Sl), IsSt st ∧ nm.length = 14 ∧ nm.Nodup ∧ (∀ x ∈ nm, Nm x) ∧ fz 0 s4 = encL 0 4 l ∧ Gi (nm.take 12) l r ∧ e = ⟨0, [some (.d (.scr ns)), some (.own (.lst st)), some (.own (.lst (nm.map D.str))), sp, some s4, none, none, none, none, none, none, none, none, none, none, none, none]⟩ := by
  unfold f_law
  dsimp only [List.take]
  refine ws_cut 4 (fun e => ∃ (st3 : List D) (nm : List Str) (l0 : Lv 4) (used r' : List Str) (w : Sl), nm.length = 14 ∧ nm.Nodup ∧ (∀ x ∈ nm, Nm x) ∧ fz 0 w = encL 0 4 l0 ∧ (nm.take 9).reverse = used ++ r' ∧ (nms 4 l0).Perm used ∧ Wf 4 l0 ∧ IsSt st3 ∧ e = ⟨0, [some (.d (.scr ns)), some (.own (.lst st3)), some (.own (.lst (nm.map D.str))), some (.own (.lst (r'.reverse.map D.str))), some w, none, none, none, none, none, none, none, none, none, none, none, none]⟩) ?_ ?_
  · dsimp only [List.take]
    walk_at "ev"
    refine wp_callS [D.scr ns] (start_c (n := 13) (ns := ns)) ?_
    rintro w fin ⟨st, rfl, hst⟩
    walk_at "ev"
    refine wp_call (names_c (n := 11) (t := 0) (cnt := 14) hst (by omega)) rfl (by simp [refsOf]) ?_
    rintro w fin ⟨nm, st2, rfl, rfl, hs2, n1, n2, n3⟩
    walk_at "ev"
    have l14 : (nm.map D.str).length = 14 := by rw [List.length_map]; exact n1
    rw [show sliced (.own (.lst (nm.map D.str))) none (some 9) = some (.new (.lst ((nm.map D.str).take 9))) from sl_to (k := 9) (by rw [l14]; omega)]
    walk_at "ev"
    -- the level
    have e9 : (nm.map D.str).take 9 = ((nm.take 9).reverse.reverse).map D.str := by rw [List.reverse_reverse, List.map_take]
    rw [e9]
    have r9 : (nm.take 9).reverse.length = 9 := by rw [List.length_reverse, List.length_take]; omega
    have nd9 : (nm.take 9).reverse.Nodup := by
      rw [(List.reverse_perm _).nodup_iff]
      exact (List.take_sublist 9 nm).nodup n2
    refine wp_call (level_c 4 (by omega) (by omega) 8 0 st2 (nm.take 9).reverse hs2 (by rw [r9]; decide) nd9 (by omega)) rfl (by simp [refsOf]) ?_
    rintro w fin ⟨l0, used, r', st3, k1, k2, k3, k4, k5, k6, rfl⟩
    walk_at "ev"
    rw [sto_slW]
    walk_at "ev"
    exact ⟨st3, nm, l0, used, r', w, n1, n2, n3, k1, k2, k3, k4, k5, rfl⟩
  · rintro e ⟨st3, nm, l0, used, r', w, n1, n2, n3, k1, k2, k3, k4, k5, rfl⟩
    have l14 : (nm.map D.str).length = 14 := by rw [List.length_map]; exact n1
    have lr : used.length + r'.length = 9 := by
      have := congrArg List.length k2
      rw [List.length_reverse, List.length_take, List.length_append] at this
      omega
    -- spare names
    have e12 : ((nm.map D.str).drop 9).take 3 = ((nm.drop 9).take 3).map D.str := by rw [List.map_take, List.map_drop]
    have esp : r'.reverse.map D.str ++ ((nm.drop 9).take 3).map D.str = ((((nm.drop 9).take 3).reverse ++ r').reverse).map D.str := by
      rw [List.reverse_append, List.reverse_reverse, List.map_append]
    have gi : Gi (nm.take 12) l0 (((nm.drop 9).take 3).reverse ++ r') := by
      have e0 : nm.take 12 = nm.take 9 ++ (nm.drop 9).take 3 := by
        rw [show (12 : Nat) = 9 + 3 from rfl, List.take_add]
      have pm : (nms 4 l0 ++ (((nm.drop 9).take 3).reverse ++ r')).Perm (nm.take 12) := by
        refine (k3.append_right _).trans ?_
        have p1 : (used ++ (((nm.drop 9).take 3).reverse ++ r')).Perm ((used ++ r') ++ (nm.drop 9).take 3) := by
          rw [List.append_assoc]
          refine List.Perm.append_left _ (List.perm_append_comm.trans (List.Perm.append_left _ (List.reverse_perm _)))
        refine p1.trans ?_
        rw [← k2, e0]
        exact (List.reverse_perm _).append_right _
      have sub : ∀ x ∈ nm.take 12, x ∈ nm := fun x hx => List.mem_of_mem_take hx
      refine ⟨k4, pm.nodup_iff.mpr ((List.take_sublist 12 nm).nodup n2), fun x hx => n3 x (sub x (pm.mem_iff.mp hx)), ?_, fun x hx => pm.mem_iff.mp hx⟩
      have := pm.length_eq
      rw [List.length_append, List.length_take] at this
      omega
    have fin : ∀ (s : Sl), fz 0 s = encL 0 4 l0 → ∀ {sl3 : Option Sl}, sl3 = some (.own (.lst (r'.reverse.map D.str))) → Wp (exec info (callF info fns 0 14) [] 0 (.asg 4 (.callL 7 [.ref 1, .var 4, .newa (.bin .add (.var 3) (.slc (.var 2) (some (.cst (.int 9))) (some (.cst (.int 12)))))]))) ⟨0, [some (.d (.scr ns)), some (.own (.lst st3)), some (.own (.lst (nm.map D.str))), sl3, some s, none, none, none, none, none, none, none, none, none, none, none, none]⟩ fun fl e => fl = .next ∧ ∃ (st : List D) (l : Lv 4) (r : List Str) (s4 : Sl), IsSt st ∧ fz 0 s4 = encL 0 4 l ∧ Gi (nm.take 12) l r ∧ e = ⟨0, [some (.d (.scr ns)), some (.own (.lst st)), some (.own (.lst (nm.map D.str))), sl3, some s4, none, none, none, none, none, none, none, none, none, none, none, none]⟩ := by
      intro s hs sl3 h3
      subst h3
      cases s with
      | d x =>
        have hs : x = encL 0 4 l0 := hs
        subst hs
        walk_at "ev"
        rw [sl_mid l14]
        walk_at "ev"
        rw [e12, add_own (by simp; omega)]
        walk_at "ev"
        rw [esp]
        refine callL_sem (N := 8) (t := 0) rfl rfl k5 gi fun w l' r2 st4 q1 q2 q3 => ?_
        walk_at "ev"
        rw [sto_slW]
        walk_at "ev"
        exact ⟨st4, l', r2, w, q3, q1, q2, rfl⟩
      | own c =>
        have hs : c.toD 0 = encL 0 4 l0 := hs
        walk_at "ev"
        rw [hs]
        walk_at "ev"
        rw [sl_mid l14]
        walk_at "ev"
        rw [e12, add_own (by simp; omega)]
        walk_at "ev"
        rw [esp]
        refine callL_sem (N := 8) (t := 0) rfl rfl k5 gi fun w l' r2 st4 q1 q2 q3 => ?_
        walk_at "ev"
        rw [sto_slW]
        walk_at "ev"
        exact ⟨st4, l', r2, w, q3, q1, q2, rfl⟩
    dsimp only [List.drop]
    rw [ws_cons]
    refine (fin w k1 rfl).mono ?_
    rintro fl e ⟨rfl, st, l, r, s4, q1, q2, q3, rfl⟩
    rw [seqK_next, ws_nil]
    exact ⟨rfl, st, nm, l, r, s4, _, q1, n1, n2, n3, q2, q3, rfl⟩
end MV
set_option maxHeartbeats 4000000
namespace MV
open PySem
local macro_rules | `(tactic| walk_at "ev") => `(tactic| try simp only [brK_open, ↓brU_true, ↓brU_false, wp_ret, wp_bnd, wp_bad, wp_some, wp_none, wp_var, slotK_d, slotK_own, wp_rd_d, wp_rd_new, getK_some, wp_rd_at, wp_frz_d, wp_frz_new, frzK_d, frzK_own, wp_frz_at, wp_sto_d, wp_sto_new, wp_sto_at, wp_setSl, ownK_lst, wp_ownLst, wp_tr, wp_noX,
  wv_cst, wv_glob, wv_ccon, wv_tup, wv_lst, wv_bin, wv_cmp, wv_isNone, wv_notNone, wv_not, wv_and, wv_or, wv_ite, wv_idx, wv_slc, wv_rev, wv_prim, wv_prim2, wv_joinc, wv_isin, wv_call, wv_callL, wv_pop, popK_lst, wv_attr, wv_prop, wv_comp, wv_mk, wv_rng0, wv_chain,
  we_nil, we_cons, wa_nil, wo_none, wo_some, ws_nil, ws_cons, seqK_next, seqK_ret, seqK_brk, seqK_cont, wst_expr, wst_asg, wst_asgT, wst_append, wst_insert, wst_setIx, wst_ret, wst_ite, wst_for, wst_brk, wst_cont, wst_pass, wst_bad,
  get_mk, set_mk, List.getElem?_cons_zero, List.getElem?_cons_succ, Option.join_some, Option.join_none, List.set_cons_zero, List.set_cons_succ,
  Option.bind_some, List.length_cons, List.length_nil, ix_0, ix_1, ix_2, ix_3, ix_4, ix_5, ix_6, ix_7, ix_8, ix_9, ix_10, ix_11, ix_12, ix_13, ix_m1, item_own, item_lst, item_tup, add_int, sub_int, cmp_le, cmp_lt, cmp_gt, cmp_ge, cmp_eqi, cmp_nei, wp_cmp_int, truth_bl, truth_int, out_d, out_new, out_at, outK_own, allOwn_nil, allOwn_cons, isO_own, true_and, and_true, List.contains_cons, List.contains_nil, Bool.or_false, Bool.false_or, Bool.or_self, Bool.true_or, Bool.or_true, wp_primlen_lst, wp_primlen_tup, intOf_int, ty_non_int, ty_non_bool, ty_non_str, ty_non_tuple, ty_non_list, tyOk_non, isNon_non, ty_bl_int, ty_bl_bool, ty_bl_str, ty_bl_tuple, ty_bl_list, tyOk_bl, isNon_bl, ty_int_int, ty_int_bool, ty_int_str, ty_int_tuple, ty_int_list, tyOk_int, isNon_int, ty_str_int, ty_str_bool, ty_str_str, ty_str_tuple, ty_str_list, tyOk_str, isNon_str, ty_tup_int, ty_tup_bool, ty_tup_str, ty_tup_tuple, ty_tup_list, tyOk_tup, isNon_tup, ty_lst_int, ty_lst_bool, ty_lst_str, ty_lst_tuple, ty_lst_list, tyOk_lst, isNon_lst, ty_obj_int, ty_obj_bool, ty_obj_str, ty_obj_tuple, ty_obj_list, tyOk_obj, isNon_obj, ty_own_list, ty_own_tuple, any1, any2, eq_self, decide_true, decide_false, endK_ret, objK_obj, wst_setFld, put_nil, put_ne, objOf_obj, objOf_own, fld_eq, fld_ne, ne_eq, Nat.reduceEqDiff, Nat.reduceBEq, Nat.zero_ne_one, Nat.one_ne_zero, not_false_eq_true, wp_cmp_obj, wp_len_obj, ansB_bl, tupK_tup, wp_items_obj,  Int.toNat_natCast, slW_d, slW_own, setFin_r, setFin_c, setFin_n, wp_items_lst, wp_items_tup, wp_items_str, bind_one, bind_two, toD_lst, wp_primlen_own, wp_primlen_at', lenK_lst, wp_primlen_str, pr_list, pr_tuple, pr_sorted, pr_max, pr_int, list_lst, list_tup, list_own, list_scr, tuple_lst, tuple_own, tuple_tup, int_int, wp_cmp_str, wp_cmp_bl, cmp_eqb, wa_ref', refK_own, wa_var, wa_cst, wa_lst, wa_tup, wa_idx, wa_bin, wa_call, wa_prim, wa_slc, wa_attr, wa_ite, wa_cmp, wa_comp, wa_rev, wa_isNone, wa_glob, wa_ccon, wa_prop, wl_ref', wl_newa, newK_new, wl_var, List.map_nil, List.map_cons, List.append_nil, decide_eq_true_eq, Bool.false_eq_true, ↓reduceIte, Bool.not_eq_true, Bool.not_true, Bool.not_false])
section
variable {I : Info} {P : Phi} {br : List Nat} {fuel : Nat}
theorem wst_epoch {t t0 : Nat} {l : List (Option Sl)} {Q : Fl → Env → Prop} (h : t0 ≤ t) : Wp (exec I P br fuel (.epoch t)) ⟨t0, l⟩ Q = Q .next ⟨t, l⟩ := by
  rw [exec]
  unfold Wp
  dsimp only
  rw [if_pos h]
theorem wst_empt {e : Env} {i t : Nat} {x : D} {Q : Fl → Env → Prop} (h : e.get i = some (.d x)) (hc : allAt t x = true ∧ isSeq x = true ∧ depthD x ≤ 12 ∧ 1 ≤ t) : Wp (exec I P br fuel (.empt i t)) e Q = Q .next { e with sl := keepOlder t (e.sl.set i none) } := by
  rw [exec]
  unfold Wp
  dsimp only
  rw [h]
  dsimp only
  rw [if_pos hc]
theorem set_self {e : Env} {i : Nat} {s : Sl} (h : e.get i = some s) : e.set i (some s) = e := by
  obtain ⟨t, l⟩ := e
  have h : (l[i]?).join = some s := h
  show (⟨t, l.set i (some s)⟩ : Env) = ⟨t, l⟩
  congr 1
  cases q : l[i]? with
  | none => rw [q] at h; cases h
  | some o =>
    rw [q] at h
    have h : o = some s := h
    subst h
    obtain ⟨hi, e⟩ := List.getElem?_eq_some_iff.mp q
    rw [← e]
    exact List.set_getElem_self hi
theorem slotK_frz {e : Env} {i : Nat} {s : Sl} {Q : D → Env → Prop} (h : e.get i = some s) : slotK e i (fun w => Wp (frz w) e Q) (some s) = Q (fz e.t s) (e.set i (some (.d (fz e.t s)))) := by
  cases s with
  | d x =>
    rw [slotK_d, wp_frz_d]
    show _ = Q x (e.set i (some (.d x)))
    rw [set_self h]
  | own c => rw [slotK_own, wp_frz_at, h, frzK_own]; rfl
theorem wp_cmp_an {e : Env} {i c : Nat} {ns ns' : List Nat} {xs xs' : List D} {Q : W → Env → Prop} (h : e.get i = some (.own (.obj c ns xs))) : Wp (cmpM I P .eq (.at_ i) (.new (.obj c ns' xs'))) e Q = Wp (optM (I.eqm c)) (e.set i (some (.d (.obj c ns xs)))) fun f e1 => Wp (callM P f [.d (.obj c ns xs), .d (.obj c ns' xs')]) e1 fun w e2 => Wp (ansB w) e2 Q := by
  unfold cmpM
  rw [wp_bnd, wp_rd_at, h, getK_some, wp_bnd, wp_rd_new]
  dsimp only [objOf]
  rw [if_pos rfl, wp_bnd, wp_frz_at, h, frzK_own, wp_bnd, wp_frz_new]
  simp only [wp_bnd]; repeat (refine wp_q fun _ _ => ?_; try simp only [wp_bnd])
theorem wp_cmp_nn {e : Env} {c : Nat} {ns ns' : List Nat} {xs xs' : List D} {Q : W → Env → Prop} : Wp (cmpM I P .eq (.new (.obj c ns xs)) (.new (.obj c ns' xs'))) e Q = Wp (optM (I.eqm c)) e fun f e1 => Wp (callM P f [.d (.obj c ns xs), .d (.obj c ns' xs')]) e1 fun w e2 => Wp (ansB w) e2 Q := by
  unfold cmpM
  rw [wp_bnd, wp_rd_new, wp_bnd, wp_rd_new]
  dsimp only [objOf]
  rw [if_pos rfl, wp_bnd, wp_frz_new, wp_bnd, wp_frz_new]
  simp only [wp_bnd]; repeat (refine wp_q fun _ _ => ?_; try simp only [wp_bnd])
end
theorem Gi.gd {U : List Str} {l : Lv 4} {r : List Str} (h : Gi U l r) : Gd l := ⟨h.wf, fun x hx => h.nm x (List.mem_append_left _ hx), (List.nodup_append.mp h.nd).1, by have := h.le; omega⟩
theorem gd_rn {l : Lv 4} {old new : Str} (h : Gd l) (hn : new ∉ nms 4 l) (hv : Nm new) : Gd (rn old new 4 l) := by
  obtain ⟨a, b⟩ := rn_ns (old := old) (n := 4) ⟨h.nd, h.nm⟩ hn hv
  refine ⟨rn_wf old new 4 l h.wf, b, a, ?_⟩
  have := (rn_nms old new 4 l).length_eq
  rw [List.length_map] at this
  have := h.le
  omega
def flat (l : Lv 4) : Lv 4 := mkLv (srt (nms 4 l)) []
theorem flat_nms (l : Lv 4) : nms 4 (flat l) = srt (nms 4 l) := by
  show srt (nms 4 l) ++ low 3 [] = _
  unfold low
  simp
theorem gd_flat {l : Lv 4} (h : Gd l) : Gd (flat l) := by
  refine ⟨⟨fun z => ?_, srt_sorted _, List.Pairwise.nil, fun p hp => by cases hp⟩, fun x hx => ?_, ?_, ?_⟩
  · have z : srt (nms 4 l) = [] := z
    have := (srt_perm (nms 4 l)).length_eq
    rw [z] at this
    have e : nms 4 l = l.pl ++ low 3 l.inn := rfl
    rw [e, List.length_append] at this
    exact h.wf.1 (List.length_eq_zero_iff.mp (by simp at this; omega))
  · rw [flat_nms, (srt_perm _).mem_iff] at hx; exact h.nm x hx
  · rw [flat_nms, (srt_perm _).nodup_iff]; exact h.nd
  · rw [flat_nms, (srt_perm _).length_eq]; exact h.le
theorem fz_time {w : Sl} {l : Lv 4} (h : fz 0 w = encL 0 4 l) : ∃ v, fz 1 w = encM v 0 4 l := by
  cases w with
  | d x => exact ⟨0, h⟩
  | own c =>
    cases c with
    | lst xs =>
      refine ⟨1, ?_⟩
      have h : D.lst 0 xs = .lst 0 [.lst 0 (l.pl.map .str), .lst 0 (l.inn.map fun p => .lst 0 [.str p.1, encM 0 0 3 p.2])] := h
      injection h with _ h
      subst h
      rfl
    | obj c ns xs => exact nomatch (show D.obj c ns xs = .lst 0 _ from h)
/-- law's first steps behind the level -/
theorem law2 (ns : List Int) (st : List D) (nm : List Str) (l : Lv 4) (r : List Str) (s4 : Sl) (sp : Option Sl) (hst : IsSt st) (n1 : nm.length = 14) (n2 : nm.Nodup) (n3 : ∀ x ∈ nm, Nm x) (h4 : fz 0 s4 = encL 0 4 l) (hg : Gi (nm.take 12) l r) : Wp (execs info (callF info fns 0 14) [] 0 ((f_law.body.drop 5).take 2)) ⟨0, [some (.d (.scr ns)), some (.own (.lst st)), some (.own (.lst (nm.map D.str))), sp, some s4, none, none, none, none, none, none, none, none, none, none, none, none]⟩ fun fl e => fl = .next ∧ ∃ (st : List D) (fr : Lv 4) (s5 : Sl), IsSt st ∧ Gd fr ∧ fz 0 s5 = encL 0 4 fr ∧ e = ⟨0, [some (.d (.scr ns)), some (.own (.lst st)), some (.own (.lst (nm.map D.str))), sp, some (.d (encL 0 4 l)), some s5, some (.own (.lst [.lst 0 ((srt (nms 4 l)).map D.str), .lst 0 []])), none, none, none, none, none, none, none, none, none, none]⟩ := by
  have gd := hg.gd
  have hle := gd.le
  unfold f_law
  dsimp only [List.take, List.drop]
  walk_at "ev"
  rw [slotK_frz rfl]
  dsimp only
  rw [h4]
  walk_at "ev"
  refine wp_callS1 (all_c 4 10 0 0 0 l gd.sm) ?_
  walk_at "ev"
  have hne : 0 < (nms 4 l).length := by
    have e : nms 4 l = l.pl ++ low 3 l.inn := rfl
    rw [e, List.length_append]
    have := List.length_pos_iff.mpr gd.wf.1
    omega
  refine wp_pick (n := 12) (i := 1) rfl hst (by rw [List.length_map]; omega) fun y st2 hy hs2 => ?_
  obtain ⟨old, hold, rfl⟩ := List.mem_map.mp hy
  walk_at "ev"
  rw [show (nm.map D.str).length = 13 + 1 by rw [List.length_map]; omega, ix_12]
  walk_at "ev"
  have h12 : 12 < nm.length := by omega
  rw [List.getElem?_map, List.getElem?_eq_getElem h12, Option.map_some]
  walk_at "ev"
  have hnew : nm[12] ∉ nms 4 l := fun z => by
    have h1 := hg.un _ (List.mem_append_left _ z)
    obtain ⟨j, hj, e⟩ := List.mem_iff_getElem.mp h1
    rw [List.getElem_take] at e
    have hj2 : j < 12 := by rw [List.length_take] at hj; omega
    have := (List.getElem_inj n2).mp e
    omega
  have hnv : Nm nm[12] := n3 _ (List.getElem_mem h12)
  refine wp_callS [encL 0 4 l, .str old, .str nm[12]] (renamed_c 4 10 0 0 l old nm[12] ⟨gd.nd, gd.nm⟩ (by omega) hnew (gd.nm _ hold).ok (by omega)) ?_
  intro w fin hw
  rw [sto_slW]
  walk_at "ev"
  refine wp_callS1 (all_c 4 10 0 0 0 l gd.sm) ?_
  walk_at "ev"
  rw [sorted_strs rfl]
  walk_at "ev"
  exact ⟨st2, rn old nm[12] 4 l, w, hs2, gd_rn gd hnew hnv, hw, rfl⟩
end MV
set_option maxHeartbeats 4000000
namespace MV
open PySem
local macro_rules | `(tactic| walk_at "ev") => `(tactic| try simp only [brK_open, ↓brU_true, ↓brU_false, wp_ret, wp_bnd, wp_bad, wp_some, wp_none, wp_var, slotK_d, slotK_own, wp_rd_d, wp_rd_new, getK_some, wp_rd_at, wp_frz_d, wp_frz_new, frzK_d, frzK_own, wp_frz_at, wp_sto_d, wp_sto_new, wp_sto_at, wp_setSl, ownK_lst, wp_ownLst, wp_tr, wp_noX,
  wv_cst, wv_glob, wv_ccon, wv_tup, wv_lst, wv_bin, wv_cmp, wv_isNone, wv_notNone, wv_not, wv_and, wv_or, wv_ite, wv_idx, wv_slc, wv_rev, wv_prim, wv_prim2, wv_joinc, wv_isin, wv_call, wv_callL, wv_pop, popK_lst, wv_attr, wv_prop, wv_comp, wv_mk, wv_rng0, wv_chain,
  we_nil, we_cons, wa_nil, wo_none, wo_some, ws_nil, ws_cons, seqK_next, seqK_ret, seqK_brk, seqK_cont, wst_expr, wst_asg, wst_asgT, wst_append, wst_insert, wst_setIx, wst_ret, wst_ite, wst_for, wst_brk, wst_cont, wst_pass, wst_bad,
  get_mk, set_mk, List.getElem?_cons_zero, List.getElem?_cons_succ, Option.join_some, Option.join_none, List.set_cons_zero, List.set_cons_succ,
  Option.bind_some, List.length_cons, List.length_nil, ix_0, ix_1, ix_2, ix_3, ix_4, ix_5, ix_6, ix_7, ix_8, ix_9, ix_10, ix_11, ix_12, ix_13, ix_m1, item_own, item_lst, item_tup, add_int, sub_int, cmp_le, cmp_lt, cmp_gt, cmp_ge, cmp_eqi, cmp_nei, wp_cmp_int, truth_bl, truth_int, out_d, out_new, out_at, outK_own, allOwn_nil, allOwn_cons, isO_own, true_and, and_true, List.contains_cons, List.contains_nil, Bool.or_false, Bool.false_or, Bool.or_self, Bool.true_or, Bool.or_true, wp_primlen_lst, wp_primlen_tup, intOf_int, ty_non_int, ty_non_bool, ty_non_str, ty_non_tuple, ty_non_list, tyOk_non, isNon_non, ty_bl_int, ty_bl_bool, ty_bl_str, ty_bl_tuple, ty_bl_list, tyOk_bl, isNon_bl, ty_int_int, ty_int_bool, ty_int_str, ty_int_tuple, ty_int_list, tyOk_int, isNon_int, ty_str_int, ty_str_bool, ty_str_str, ty_str_tuple, ty_str_list, tyOk_str, isNon_str, ty_tup_int, ty_tup_bool, ty_tup_str, ty_tup_tuple, ty_tup_list, tyOk_tup, isNon_tup, ty_lst_int, ty_lst_bool, ty_lst_str, ty_lst_tuple, ty_lst_list, tyOk_lst, isNon_lst, ty_obj_int, ty_obj_bool, ty_obj_str, ty_obj_tuple, ty_obj_list, tyOk_obj, isNon_obj, ty_own_list, ty_own_tuple, any1, any2, eq_self, decide_true, decide_false, endK_ret, objK_obj, wst_setFld, put_nil, put_ne, objOf_obj, objOf_own, fld_eq, fld_ne, ne_eq, Nat.reduceEqDiff, Nat.reduceBEq, Nat.zero_ne_one, Nat.one_ne_zero, not_false_eq_true, wp_cmp_obj, wp_len_obj, ansB_bl, tupK_tup, wp_items_obj,  Int.toNat_natCast, slW_d, slW_own, setFin_r, setFin_c, setFin_n, wp_items_lst, wp_items_tup, wp_items_str, bind_one, bind_two, toD_lst, wp_primlen_own, wp_primlen_at', lenK_lst, wp_primlen_str, pr_list, pr_tuple, pr_sorted, pr_max, pr_int, list_lst, list_tup, list_own, list_scr, tuple_lst, tuple_own, tuple_tup, int_int, wp_cmp_str, wp_cmp_bl, cmp_eqb, wa_ref', refK_own, wa_var, wa_cst, wa_lst, wa_tup, wa_idx, wa_bin, wa_call, wa_prim, wa_slc, wa_attr, wa_ite, wa_cmp, wa_comp, wa_rev, wa_isNone, wa_glob, wa_ccon, wa_prop, wl_ref', wl_newa, newK_new, wl_var, List.map_nil, List.map_cons, List.append_nil, decide_eq_true_eq, Bool.false_eq_true, ↓reduceIte, Bool.not_eq_true, Bool.not_true, Bool.not_false])
def kO (t : Nat) : Option Sl → Option Sl
  | some s => if (s.older t && s.noScr) = true then some s else none
  | none => none
theorem keep_nil {t : Nat} : keepOlder t [] = [] := rfl
theorem keep_cons {t : Nat} {a : Option Sl} {l : List (Option Sl)} : keepOlder t (a :: l) = kO t a :: keepOlder t l := rfl
theorem kO_none {t : Nat} : kO t none = none := rfl
theorem kO_some {t : Nat} {s : Sl} (h : s.older t = true ∧ s.noScr = true) : kO t (some s) = some s := by
  show (if (s.older t && s.noScr) = true then some s else none) = some s
  rw [h.1, h.2]; rfl
theorem kO_d {t : Nat} {x : D} (h : older t x = true ∧ noScr x = true) : kO t (some (.d x)) = some (.d x) := kO_some h
theorem kO_l {t : Nat} {xs : List D} (h : olderL t xs = true ∧ noScrL xs = true) : kO t (some (.own (.lst xs))) = some (.own (.lst xs)) := kO_some h
theorem kO_scr {t : Nat} {ns : List Int} : kO t (some (.d (.scr ns))) = none := rfl
theorem olderL_of {t : Nat} : ∀ {xs : List D}, (∀ x ∈ xs, older t x = true ∧ noScr x = true) → olderL t xs = true ∧ noScrL xs = true
  | [], _ => ⟨rfl, rfl⟩
  | x :: xs, h => by
    have a := h x List.mem_cons_self
    have b := olderL_of fun y hy => h y (List.mem_cons_of_mem _ hy)
    unfold olderL noScrL
    rw [a.1, a.2, b.1, b.2]; exact ⟨rfl, rfl⟩
theorem olderL_map {α : Type} {t : Nat} {f : α → D} {xs : List α} (h : ∀ x ∈ xs, older t (f x) = true ∧ noScr (f x) = true) : olderL t (xs.map f) = true ∧ noScrL (xs.map f) = true :=
  olderL_of fun y hy => by obtain ⟨x, hx, rfl⟩ := List.mem_map.mp hy; exact h x hx
theorem old_str {t : Nat} {x : Str} : older t (.str x) = true ∧ noScr (.str x) = true := ⟨rfl, rfl⟩
theorem old_strs {t : Nat} {xs : List Str} : olderL t (xs.map D.str) = true ∧ noScrL (xs.map D.str) = true := olderL_map fun _ _ => old_str
theorem old_lst {t u : Nat} {xs : List D} (hu : u < t) (h : olderL t xs = true ∧ noScrL xs = true) : older t (.lst u xs) = true ∧ noScr (.lst u xs) = true := by
  unfold older noScr
  rw [h.1, h.2, decide_eq_true hu]; exact ⟨rfl, rfl⟩
theorem old_tup {t : Nat} {xs : List D} (h : olderL t xs = true ∧ noScrL xs = true) : older t (.tup xs) = true ∧ noScr (.tup xs) = true := by
  unfold older noScr
  exact h
theorem old_cons {t : Nat} {x : D} {xs : List D} (a : older t x = true ∧ noScr x = true) (b : olderL t xs = true ∧ noScrL xs = true) : olderL t (x :: xs) = true ∧ noScrL (x :: xs) = true := by
  unfold olderL noScrL
  rw [a.1, a.2, b.1, b.2]; exact ⟨rfl, rfl⟩
theorem old_nil {t : Nat} : olderL t [] = true ∧ noScrL [] = true := ⟨rfl, rfl⟩
theorem old_enc : ∀ (n v u t : Nat) (l : Lv n), v < t → u < t → older t (encM v u n l) = true ∧ noScr (encM v u n l) = true
  | 0, _, _, _, l, _, _ => Empty.elim l
  | n + 1, v, u, t, l, hv, hu => old_lst hv (old_cons (old_lst hu old_strs) (old_cons (old_lst hu (olderL_map fun p _ => old_lst hu (old_cons old_str (old_cons (old_enc n u u t p.2 hu hu) old_nil)))) old_nil))
theorem old_encT : ∀ (n t : Nat) (l : Lv n), older t (encT n l) = true ∧ noScr (encT n l) = true
  | 0, _, l => Empty.elim l
  | n + 1, t, l => old_tup (old_cons (old_tup old_strs) (old_cons (old_tup (olderL_map fun p _ => old_tup (old_cons old_str (old_cons (old_encT n t p.2) old_nil)))) old_nil))
theorem old_kind {t : Nat} {l : Lv 4} : older t (kindD l) = true ∧ noScr (kindD l) = true := by
  have h : olderL t (kindXs l) = true ∧ noScrL (kindXs l) = true := old_cons (old_encT 4 t l) (old_cons old_str (old_cons (old_tup old_strs) (old_cons (old_tup old_strs) (old_cons (old_tup (olderL_map fun p _ => old_str)) old_nil))))
  unfold kindD older noScr
  exact h
theorem old_st {st : List D} (h : IsSt st) : olderL 1 st = true ∧ noScrL st = true := by
  obtain ⟨u, ns, pos, num, cnt, fl, rfl, _, rfl⟩ := h
  exact old_cons (old_lst (by omega) (olderL_map fun _ _ => ⟨rfl, rfl⟩)) (old_cons ⟨rfl, rfl⟩ (old_cons ⟨rfl, rfl⟩ (old_cons ⟨rfl, rfl⟩ (old_cons ⟨rfl, rfl⟩ old_nil))))
theorem old_fr {s : Sl} {l : Lv 4} (h : fz 0 s = encL 0 4 l) : s.older 1 = true ∧ s.noScr = true := by
  have k := old_enc 4 0 0 1 l (by omega) (by omega)
  cases s with
  | d x =>
    have h : x = encL 0 4 l := h
    subst h
    exact k
  | own c =>
    cases c with
    | lst xs =>
      have h : D.lst 0 xs = encL 0 4 l := h
      have k : older 1 (.lst 0 xs) = true ∧ noScr (.lst 0 xs) = true := h ▸ k
      unfold older noScr at k
      exact ⟨(Bool.and_eq_true _ _ ▸ k.1).2, k.2⟩
    | obj c ns xs => exact nomatch (show D.obj c ns xs = .lst 0 _ from h)
theorem fz_cpS {t : Nat} {d : D} : fz t (cpS t d) = cp t d := by
  cases d <;> rfl
/-- the list given, its copy, its kind -/
theorem law3 (ns : List Int) (st : List D) (nm : List Str) (l : Lv 4) (x6 : D) (x6' : D) (s5 : Sl) (sp : Option Sl) (fr : Lv 4) (hst : IsSt st) (gd : Gd l) (hfr : fz 0 s5 = encL 0 4 fr) (ys : List Str) :
  Wp (execs info (callF info fns 0 14) [] 0 ((f_law.body.drop 7).take 6)) ⟨0, [some (.d (.scr ns)), some (.own (.lst st)), some (.own (.lst (nm.map D.str))), sp, some (.d (encL 0 4 l)), some s5, some (.own (.lst [.lst 0 (ys.map D.str), .lst 0 []])), none, none, none, none, none, none, none, none, none, none]⟩
  fun fl e => fl = .next ∧ ∃ (st : List D) (s3 s8 : Option Sl), IsSt st ∧ e = ⟨1, [none, some (.own (.lst st)), some (.own (.lst (nm.map D.str))), s3, some (.d (encL 0 4 l)), some s5, some (.own (.lst [.lst 0 (ys.map D.str), .lst 0 []])), none, s8, some (.d (kindD l)), none, none, none, none, none, none, none]⟩ := by
  have hle := gd.le
  unfold f_law
  dsimp only [List.take, List.drop]
  rw [ws_cons, wst_epoch (by omega), seqK_next]
  walk_at "ev"
  refine wp_call (given_c 4 9 1 0 0 l st hst gd.wf ⟨gd.nd, gd.nm⟩ (by omega)) rfl (by simp [refsOf]) ?_
  rintro w fin ⟨st2, hs2, rfl, hp, ho⟩
  walk_at "ev"
  rw [sto_slW]
  walk_at "ev"
  rw [slotK_frz rfl]
  walk_at "ev"
  refine wp_callS1 (copied_c 7 6 1 (fz 1 w) ho.pur (by have := ho.dp; omega)) ?_
  walk_at "ev"
  rw [sto_slW]
  walk_at "ev"
  rw [init0]
  walk_at "ev"
  try (rw [init0]; walk_at "ev")
  refine wp_kind (N := 8) hp gd ?_
  walk_at "ev"
  rw [slotK_frz rfl]
  walk_at "ev"
  rw [fz_cpS]
  refine wp_callD2 (same_c 7 6 1 (fz 1 w) (cp 1 (fz 1 w)) (eqv_cp 1 _ ho.pur) (by rw [depth_cp]; have := ho.dp; omega)) ?_
  walk_at "ev"
  refine wp_callD2 (kind_is_c (N := 7) (v := 0) (u := 0) gd) ?_
  walk_at "ev"
  rw [wst_empt rfl ⟨ho.at_, ho.sq, by have := ho.dp; omega, by omega⟩, seqK_next]
  have ek : Cell.toD 1 (Cell.obj 0 [0, 1, 2, 3, 4] (kindXs l)) = kindD l := rfl
  rw [ek]
  dsimp only [List.set_cons_zero, List.set_cons_succ]
  rw [keep_cons, keep_cons, keep_cons, keep_cons, keep_cons, keep_cons, keep_cons, keep_cons, keep_cons, keep_cons, keep_cons, keep_cons, keep_cons, keep_cons, keep_cons, keep_cons, keep_cons, keep_nil, kO_scr, kO_l (old_st hs2), kO_l (xs := nm.map D.str) old_strs, kO_d (x := encL 0 4 l) (old_enc 4 0 0 1 l (by omega) (by omega)), kO_some (old_fr hfr), kO_l (xs := [.lst 0 (ys.map D.str), .lst 0 []]) (old_cons (old_lst (by omega) old_strs) (old_cons (old_lst (by omega) old_nil) old_nil)), kO_none, kO_d (x := kindD l) old_kind]
  walk_at "ev"
  exact ⟨st2, _, _, hs2, rfl⟩
end MV
set_option maxHeartbeats 4000000
namespace MV
open PySem
local macro_rules | `(tactic| walk_at "ev") => `(tactic| try simp only [brK_open, ↓brU_true, ↓brU_false, wp_ret, wp_bnd, wp_bad, wp_some, wp_none, wp_var, slotK_d, slotK_own, wp_rd_d, wp_rd_new, getK_some, wp_rd_at, wp_frz_d, wp_frz_new, frzK_d, frzK_own, wp_frz_at, wp_sto_d, wp_sto_new, wp_sto_at, wp_setSl, ownK_lst, wp_ownLst, wp_tr, wp_noX,
  wv_cst, wv_glob, wv_ccon, wv_tup, wv_lst, wv_bin, wv_cmp, wv_isNone, wv_notNone, wv_not, wv_and, wv_or, wv_ite, wv_idx, wv_slc, wv_rev, wv_prim, wv_prim2, wv_joinc, wv_isin, wv_call, wv_callL, wv_pop, popK_lst, wv_attr, wv_prop, wv_comp, wv_mk, wv_rng0, wv_chain,
  we_nil, we_cons, wa_nil, wo_none, wo_some, ws_nil, ws_cons, seqK_next, seqK_ret, seqK_brk, seqK_cont, wst_expr, wst_asg, wst_asgT, wst_append, wst_insert, wst_setIx, wst_ret, wst_ite, wst_for, wst_brk, wst_cont, wst_pass, wst_bad,
  get_mk, set_mk, List.getElem?_cons_zero, List.getElem?_cons_succ, Option.join_some, Option.join_none, List.set_cons_zero, List.set_cons_succ,
  Option.bind_some, List.length_cons, List.length_nil, ix_0, ix_1, ix_2, ix_3, ix_4, ix_5, ix_6, ix_7, ix_8, ix_9, ix_10, ix_11, ix_12, ix_13, ix_m1, item_own, item_lst, item_tup, add_int, sub_int, cmp_le, cmp_lt, cmp_gt, cmp_ge, cmp_eqi, cmp_nei, wp_cmp_int, truth_bl, truth_int, out_d, out_new, out_at, outK_own, allOwn_nil, allOwn_cons, isO_own, true_and, and_true, List.contains_cons, List.contains_nil, Bool.or_false, Bool.false_or, Bool.or_self, Bool.true_or, Bool.or_true, wp_primlen_lst, wp_primlen_tup, intOf_int, ty_non_int, ty_non_bool, ty_non_str, ty_non_tuple, ty_non_list, tyOk_non, isNon_non, ty_bl_int, ty_bl_bool, ty_bl_str, ty_bl_tuple, ty_bl_list, tyOk_bl, isNon_bl, ty_int_int, ty_int_bool, ty_int_str, ty_int_tuple, ty_int_list, tyOk_int, isNon_int, ty_str_int, ty_str_bool, ty_str_str, ty_str_tuple, ty_str_list, tyOk_str, isNon_str, ty_tup_int, ty_tup_bool, ty_tup_str, ty_tup_tuple, ty_tup_list, tyOk_tup, isNon_tup, ty_lst_int, ty_lst_bool, ty_lst_str, ty_lst_tuple, ty_lst_list, tyOk_lst, isNon_lst, ty_obj_int, ty_obj_bool, ty_obj_str, ty_obj_tuple, ty_obj_list, tyOk_obj, isNon_obj, ty_own_list, ty_own_tuple, any1, any2, eq_self, decide_true, decide_false, endK_ret, objK_obj, wst_setFld, put_nil, put_ne, objOf_obj, objOf_own, fld_eq, fld_ne, ne_eq, Nat.reduceEqDiff, Nat.reduceBEq, Nat.zero_ne_one, Nat.one_ne_zero, not_false_eq_true, wp_cmp_obj, wp_len_obj, ansB_bl, tupK_tup, wp_items_obj,  Int.toNat_natCast, slW_d, slW_own, setFin_r, setFin_c, setFin_n, wp_items_lst, wp_items_tup, wp_items_str, bind_one, bind_two, toD_lst, wp_primlen_own, wp_primlen_at', lenK_lst, wp_primlen_str, pr_list, pr_tuple, pr_sorted, pr_max, pr_int, list_lst, list_tup, list_own, list_scr, tuple_lst, tuple_own, tuple_tup, int_int, wp_cmp_str, wp_cmp_bl, cmp_eqb, wa_ref', refK_own, wa_var, wa_cst, wa_lst, wa_tup, wa_idx, wa_bin, wa_call, wa_prim, wa_slc, wa_attr, wa_ite, wa_cmp, wa_comp, wa_rev, wa_isNone, wa_glob, wa_ccon, wa_prop, wl_ref', wl_newa, newK_new, wl_var, List.map_nil, List.map_cons, List.append_nil, decide_eq_true_eq, Bool.false_eq_true, ↓reduceIte, Bool.not_eq_true, Bool.not_true, Bool.not_false])
theorem pres_flat {t : Nat} {l : Lv 4} : Pres 4 (.lst t ((srt (nms 4 l)).map D.str).reverse) (flat l) := by
  refine ⟨((srt (nms 4 l)).reverse).map Sum.inl, ?_, ?_, ?_, fun q hq => ?_⟩
  · rw [List.map_map, ← List.map_reverse]; rfl
  · have : ∀ xs : List Str, (xs.map (Sum.inl : Str → It 3)).filterMap itPl = xs := fun xs => by
      induction xs with
      | nil => rfl
      | cons x xs ih => rw [List.map_cons, List.filterMap_cons_some (show itPl (n := 3) (.inl x) = some x from rfl), ih]
    rw [this]
    exact List.reverse_perm _
  · have : ∀ xs : List Str, (xs.map (Sum.inl : Str → It 3)).filterMap itTb = [] := fun xs => by
      induction xs with
      | nil => rfl
      | cons x xs ih => rw [List.map_cons, List.filterMap_cons_none (show itTb (n := 3) (.inl x) = none from rfl), ih]
    rw [this]
    exact List.Perm.refl _
  · obtain ⟨a, _, h⟩ := List.mem_map.mp hq
    cases h
theorem flat_enc {l : Lv 4} : (.lst 1 [.lst 0 ((srt (nms 4 l)).map D.str), .lst 0 []] : D) = encM 1 0 4 (flat l) := rfl
/-- the three more kinds -/
theorem law4 (st : List D) (nm : List Str) (l fr : Lv 4) (s5 : Sl) (s3 s8 : Option Sl) (hst : IsSt st) (gd : Gd l) (gf : Gd fr) (hfr : fz 0 s5 = encL 0 4 fr) :
  Wp (execs info (callF info fns 0 14) [] 0 ((f_law.body.drop 13).take 3)) ⟨1, [none, some (.own (.lst st)), some (.own (.lst (nm.map D.str))), s3, some (.d (encL 0 4 l)), some s5, some (.own (.lst [.lst 0 ((srt (nms 4 l)).map D.str), .lst 0 []])), none, s8, some (.d (kindD l)), none, none, none, none, none, none, none]⟩
  fun fl e => fl = .next ∧ ∃ (st : List D) (v : Nat), IsSt st ∧ e = ⟨1, [none, some (.own (.lst st)), some (.own (.lst (nm.map D.str))), s3, some (.d (encL 0 4 l)), some (.d (encM v 0 4 fr)), some (.own (.lst [.lst 0 ((srt (nms 4 l)).map D.str), .lst 0 []])), none, s8, some (.d (kindD l)), some (.own (.obj 0 [0, 1, 2, 3, 4] (kindXs l))), some (.own (.obj 0 [0, 1, 2, 3, 4] (kindXs fr))), some (.own (.obj 0 [0, 1, 2, 3, 4] (kindXs (flat l)))), none, none, none, none]⟩ := by
  have hle := gd.le
  have hle' := gf.le
  obtain ⟨v, hv⟩ := fz_time hfr
  unfold f_law
  dsimp only [List.take, List.drop]
  walk_at "ev"
  rw [init0]
  walk_at "ev"
  refine wp_call (given_c 4 9 1 0 0 l st hst gd.wf ⟨gd.nd, gd.nm⟩ (by omega)) rfl (by simp [refsOf]) ?_
  rintro w fin ⟨st2, hs2, rfl, hp, ho⟩
  rw [frz_fz]
  walk_at "ev"
  try (rw [init0]; walk_at "ev")
  refine wp_kind (N := 8) hp gd ?_
  walk_at "ev"
  rw [slotK_frz rfl]
  dsimp only
  rw [hv]
  walk_at "ev"
  refine wp_call (given_c 4 9 1 v 0 fr st2 hs2 gf.wf ⟨gf.nd, gf.nm⟩ (by omega)) rfl (by simp [refsOf]) ?_
  rintro w fin ⟨st3, hs3, rfl, hp, ho⟩
  rw [frz_fz]
  walk_at "ev"
  try (rw [init0]; walk_at "ev")
  refine wp_kind (N := 8) hp gf ?_
  walk_at "ev"
  rw [show reved (Sl.d (D.lst 0 ((srt (nms 4 l)).map D.str))) = some (.new (.lst ((srt (nms 4 l)).map D.str).reverse)) from rfl]
  walk_at "ev"
  try (rw [init0]; walk_at "ev")
  refine wp_kind (N := 8) pres_flat (gd_flat gd) ?_
  walk_at "ev"
  exact ⟨st3, v, hs3, rfl⟩
theorem law5 (st : List D) (nm : List Str) (l fr : Lv 4) (v : Nat) (s3 s8 : Option Sl) (gd : Gd l) (gf : Gd fr) :
  Wp (execs info (callF info fns 0 14) [] 0 ((f_law.body.drop 16).take 1)) ⟨1, [none, some (.own (.lst st)), some (.own (.lst (nm.map D.str))), s3, some (.d (encL 0 4 l)), some (.d (encM v 0 4 fr)), some (.own (.lst [.lst 0 ((srt (nms 4 l)).map D.str), .lst 0 []])), none, s8, some (.d (kindD l)), some (.own (.obj 0 [0, 1, 2, 3, 4] (kindXs l))), some (.own (.obj 0 [0, 1, 2, 3, 4] (kindXs fr))), some (.own (.obj 0 [0, 1, 2, 3, 4] (kindXs (flat l)))), none, none, none, none]⟩
  fun fl e => fl = .next ∧ ∃ (s0 s1 s3 s4 s5 s6 s7 s8 s9 s10 s11 s12 s15 s16 : Option Sl), e = ⟨1, [s0, s1, some (.own (.lst (nm.map D.str))), s3, s4, s5, s6, s7, s8, s9, s10, s11, s12, none, none, s15, s16]⟩ := by
  have hle := gd.le
  have gfl := gd_flat gd
  have ek : ∀ l, Cell.toD 1 (Cell.obj 0 [0, 1, 2, 3, 4] (kindXs l)) = kindD l := fun _ => rfl
  unfold f_law
  dsimp only [List.take, List.drop]
  walk_at "ev"
  simp only [ek]
  rw [flat_enc]
  have e5 : ([D.tup [kindD l, encL 0 4 l], .tup [kindD fr, encM v 0 4 fr], .tup [kindD (flat l), encM 1 0 4 (flat l)], .tup [kindD l, encL 0 4 l], .tup [kindD l, encL 0 4 l]] : List D) = [(l, 0), (fr, v), (flat l, 1), (l, 0), (l, 0)].map fun (p : Lv 4 × Nat) => D.tup [kindD p.1, encM p.2 0 4 p.1] := rfl
  rw [e5]
  refine wp_forMapN (fun (done : List (Lv 4 × Nat)) e => ∃ (s15 s16 : Option Sl), e = ⟨1, [none, some (.own (.lst st)), some (.own (.lst (nm.map D.str))), s3, some (.d (encL 0 4 l)), some (.d (encM v 0 4 fr)), some (.d (encM 1 0 4 (flat l))), none, s8, some (.d (kindD l)), some (.d (kindD l)), some (.d (kindD fr)), some (.d (kindD (flat l))), none, none, s15, s16]⟩) ⟨none, none, rfl⟩ ?_ ?_
  · rintro e ⟨s15, s16, rfl⟩
    walk_at "ev"
    exact ⟨_, _, _, _, _, _, _, _, _, _, _, _, _, _, rfl⟩
  · rintro done ⟨a, u⟩ rest e hq ⟨s15, s16, rfl⟩
    have ga : Gd a := by
      have hm : (a, u) ∈ [(l, 0), (fr, v), (flat l, 1), (l, 0), (l, 0)] := by rw [hq]; simp
      simp only [List.mem_cons, List.not_mem_nil, or_false, Prod.mk.injEq] at hm
      rcases hm with h | h | h | h | h <;> (rw [h.1]; assumption)
    rw [bind_two]
    walk_at "ev"
    refine wp_callD2 (kind_is_c (N := 7) (v := u) (u := 0) ga) ?_
    walk_at "ev"
    refine wp_keq (N := 13) ga gd ?_
    walk_at "ev"
    refine wp_callD1 (ltext_c 4 10 1 u 0 a ga.sm) ?_
    walk_at "ev"
    refine wp_callD1 (ltext_c 4 10 1 0 0 l gd.sm) ?_
    walk_at "ev"
    rw [cmp_eqs (txt_ok ga) (txt_ok gd)]
    walk_at "ev"
    refine wp_callD2 same_bl ?_
    walk_at "ev"
    refine wp_keq (N := 13) gfl ga ?_
    walk_at "ev"
    refine wp_callD1 (ltext_c 4 10 1 u 0 a ga.sm) ?_
    walk_at "ev"
    refine wp_callD1 (ltext_c 4 10 1 1 0 (flat l) gfl.sm) ?_
    walk_at "ev"
    rw [cmp_eqs (txt_ok ga) (txt_ok gfl)]
    walk_at "ev"
    rw [show decide (txt 4 (flat l) = txt 4 a) = decide (txt 4 a = txt 4 (flat l)) from decide_eq_decide.mpr eq_comm]
    refine wp_callD2 same_bl ?_
    walk_at "ev"
    exact ⟨_, _, rfl⟩
end MV
set_option maxHeartbeats 4000000
namespace MV
open PySem
local macro_rules | `(tactic| walk_at "ev") => `(tactic| try simp only [brK_open, ↓brU_true, ↓brU_false, wp_ret, wp_bnd, wp_bad, wp_some, wp_none, wp_var, slotK_d, slotK_own, wp_rd_d, wp_rd_new, getK_some, wp_rd_at, wp_frz_d, wp_frz_new, frzK_d, frzK_own, wp_frz_at, wp_sto_d, wp_sto_new, wp_sto_at, wp_setSl, ownK_lst, wp_ownLst, wp_tr, wp_noX,
  wv_cst, wv_glob, wv_ccon, wv_tup, wv_lst, wv_bin, wv_cmp, wv_isNone, wv_notNone, wv_not, wv_and, wv_or, wv_ite, wv_idx, wv_slc, wv_rev, wv_prim, wv_prim2, wv_joinc, wv_isin, wv_call, wv_callL, wv_pop, popK_lst, wv_attr, wv_prop, wv_comp, wv_mk, wv_rng0, wv_chain,
  we_nil, we_cons, wa_nil, wo_none, wo_some, ws_nil, ws_cons, seqK_next, seqK_ret, seqK_brk, seqK_cont, wst_expr, wst_asg, wst_asgT, wst_append, wst_insert, wst_setIx, wst_ret, wst_ite, wst_for, wst_brk, wst_cont, wst_pass, wst_bad,
  get_mk, set_mk, List.getElem?_cons_zero, List.getElem?_cons_succ, Option.join_some, Option.join_none, List.set_cons_zero, List.set_cons_succ,
  Option.bind_some, List.length_cons, List.length_nil, ix_0, ix_1, ix_2, ix_3, ix_4, ix_5, ix_6, ix_7, ix_8, ix_9, ix_10, ix_11, ix_12, ix_13, ix_m1, item_own, item_lst, item_tup, add_int, sub_int, cmp_le, cmp_lt, cmp_gt, cmp_ge, cmp_eqi, cmp_nei, wp_cmp_int, truth_bl, truth_int, out_d, out_new, out_at, outK_own, allOwn_nil, allOwn_cons, isO_own, true_and, and_true, List.contains_cons, List.contains_nil, Bool.or_false, Bool.false_or, Bool.or_self, Bool.true_or, Bool.or_true, wp_primlen_lst, wp_primlen_tup, intOf_int, ty_non_int, ty_non_bool, ty_non_str, ty_non_tuple, ty_non_list, tyOk_non, isNon_non, ty_bl_int, ty_bl_bool, ty_bl_str, ty_bl_tuple, ty_bl_list, tyOk_bl, isNon_bl, ty_int_int, ty_int_bool, ty_int_str, ty_int_tuple, ty_int_list, tyOk_int, isNon_int, ty_str_int, ty_str_bool, ty_str_str, ty_str_tuple, ty_str_list, tyOk_str, isNon_str, ty_tup_int, ty_tup_bool, ty_tup_str, ty_tup_tuple, ty_tup_list, tyOk_tup, isNon_tup, ty_lst_int, ty_lst_bool, ty_lst_str, ty_lst_tuple, ty_lst_list, tyOk_lst, isNon_lst, ty_obj_int, ty_obj_bool, ty_obj_str, ty_obj_tuple, ty_obj_list, tyOk_obj, isNon_obj, ty_own_list, ty_own_tuple, any1, any2, eq_self, decide_true, decide_false, endK_ret, objK_obj, wst_setFld, put_nil, put_ne, objOf_obj, objOf_own, fld_eq, fld_ne, ne_eq, Nat.reduceEqDiff, Nat.reduceBEq, Nat.zero_ne_one, Nat.one_ne_zero, not_false_eq_true, wp_cmp_obj, wp_len_obj, ansB_bl, tupK_tup, wp_items_obj,  Int.toNat_natCast, slW_d, slW_own, setFin_r, setFin_c, setFin_n, wp_items_lst, wp_items_tup, wp_items_str, bind_one, bind_two, toD_lst, wp_primlen_own, wp_primlen_at', lenK_lst, wp_primlen_str, pr_list, pr_tuple, pr_sorted, pr_max, pr_int, list_lst, list_tup, list_own, list_scr, tuple_lst, tuple_own, tuple_tup, int_int, wp_cmp_str, wp_cmp_bl, cmp_eqb, wa_ref', refK_own, wa_var, wa_cst, wa_lst, wa_tup, wa_idx, wa_bin, wa_call, wa_prim, wa_slc, wa_attr, wa_ite, wa_cmp, wa_comp, wa_rev, wa_isNone, wa_glob, wa_ccon, wa_prop, wl_ref', wl_newa, newK_new, wl_var, List.map_nil, List.map_cons, List.append_nil, decide_eq_true_eq, Bool.false_eq_true, ↓reduceIte, Bool.not_eq_true, Bool.not_true, Bool.not_false])
def nest3 (a b c : Str) : Lv 4 := mkLv [a] [(b, (mkLv [c] [] : Lv 3))]
def plain3 (a b c : Str) : Lv 4 := mkLv [a, b, c] []
theorem jlen1 {y a : Str} : (Txt.join y [a]).length = a.length := by rw [TL.join_eq]; rfl
theorem jlen2 {y a b : Str} : (Txt.join y [a, b]).length = a.length + y.length + b.length := by
  rw [TL.join_eq]
  show (a ++ y ++ b).length = _
  rw [str_app_len, str_app_len]
theorem jlen3 {y a b c : Str} : (Txt.join y [a, b, c]).length = a.length + y.length + (b.length + y.length + c.length) := by
  rw [TL.join_eq]
  show (a ++ y ++ (b ++ y ++ c)).length = _
  rw [str_app_len, str_app_len, str_app_len, str_app_len]
theorem txt_ne {a b c : Str} : txt 4 (nest3 a b c) ≠ txt 4 (plain3 a b c) := fun h => by
  have h1 : txt 4 (nest3 a b c) = Txt.join " " [a, prt 3 (b, (mkLv [c] [] : Lv 3))] := rfl
  have h2 : txt 4 (plain3 a b c) = Txt.join " " [a, b, c] := rfl
  have h3 : txt 3 (mkLv [c] [] : Lv 3) = Txt.join " " [c] := rfl
  rw [h1, h2] at h
  have h := congrArg Str.length h
  rw [jlen2, jlen3, prt_len] at h
  dsimp only at h
  rw [h3, jlen1] at h
  have : (" " : Str).length = 1 := rfl
  omega
theorem gd_nest {a b c : Str} (hn : [a, b, c].Nodup) (hv : ∀ x ∈ [a, b, c], Nm x) : Gd (nest3 a b c) := by
  refine ⟨⟨by show [a] ≠ []; simp, List.pairwise_singleton _ _, List.pairwise_singleton _ _, fun p hp => ?_⟩, hv, hn, by show 3 ≤ 12; omega⟩
  obtain rfl := List.mem_singleton.mp hp
  exact ⟨by show [c] ≠ []; simp, List.pairwise_singleton _ _, List.Pairwise.nil, fun p hp => nomatch hp⟩
theorem gd_plain {a b c : Str} (hs : [a, b, c].Pairwise fun a b => sle a b = true) (hn : [a, b, c].Nodup) (hv : ∀ x ∈ [a, b, c], Nm x) : Gd (plain3 a b c) :=
  ⟨⟨by show [a, b, c] ≠ []; simp, hs, List.Pairwise.nil, fun p hp => nomatch hp⟩, hv, hn, by show 3 ≤ 12; omega⟩
theorem pres_nest {t : Nat} {a b c : Str} : Pres 4 (.lst t [.str a, .tup [.str b, .lst t [.str c]]]) (nest3 a b c) := by
  refine ⟨[.inl a, .inr (.tup [.str b, .lst t [.str c]], b, (mkLv [c] [] : Lv 3))], rfl, List.Perm.refl _, List.Perm.refl _, fun q hq => ?_⟩
  have hq : q = (.tup [.str b, .lst t [.str c]], b, (mkLv [c] [] : Lv 3)) := by
    rcases List.mem_cons.mp hq with h | h
    · cases h
    · exact Sum.inr.inj (List.mem_singleton.mp h)
  subst hq
  refine ⟨.lst t [.str c], .inr rfl, [.inl c], rfl, List.Perm.refl _, List.Perm.refl _, fun q hq => ?_⟩
  cases List.mem_singleton.mp hq
theorem pres_plain {t : Nat} {a b c : Str} : Pres 4 (.lst t [.str a, .str b, .str c]) (plain3 a b c) ∧ Pres 4 (.tup [.str a, .str b, .str c]) (plain3 a b c) := by
  have h : ∀ q : D × Str × Lv 3, Sum.inr q ∈ ([.inl a, .inl b, .inl c] : List (It 3)) → ∃ e, isPair q.1 q.2.1 e ∧ Pres 3 e q.2.2 := fun q hq => by
    simp at hq
  exact ⟨⟨[.inl a, .inl b, .inl c], rfl, List.Perm.refl _, List.Perm.refl _, h⟩, ⟨[.inl a, .inl b, .inl c], rfl, List.Perm.refl _, List.Perm.refl _, h⟩⟩
theorem ccon0 : info.ccon 0 0 = some (.int 4) := rfl
theorem ccon1 : info.ccon 0 1 = some (.int 12) := rfl
theorem ccon2 : info.ccon 0 2 = some (.int 8) := rfl
theorem law6 (nm : List Str) (n1 : nm.length = 14) (n2 : nm.Nodup) (n3 : ∀ x ∈ nm, Nm x) (s0 s1 s3 s4 s5 s6 s7 s8 s9 s10 s11 s12 s15 s16 : Option Sl) :
  Wp (execs info (callF info fns 0 14) [] 0 (f_law.body.drop 17)) ⟨1, [s0, s1, some (.own (.lst (nm.map D.str))), s3, s4, s5, s6, s7, s8, s9, s10, s11, s12, none, none, s15, s16]⟩ fun fl e => fl = .ret (.d (.bl true)) := by
  have hp := srt_perm (nm.take 3)
  have hl := hp.length_eq
  have hsd := srt_sorted (nm.take 3)
  have hnd : (srt (nm.take 3)).Nodup := hp.nodup_iff.mpr ((List.take_sublist 3 nm).nodup n2)
  have hnm : ∀ x ∈ srt (nm.take 3), Nm x := fun x hx => n3 x (List.mem_of_mem_take (hp.mem_iff.mp hx))
  have hst := sorted_strs (s := .own (.lst ((nm.take 3).map D.str))) (xs := nm.take 3) rfl
  rw [List.length_take, n1] at hl
  generalize srt (nm.take 3) = z at *
  obtain ⟨a, b, c, rfl⟩ : ∃ a b c, z = [a, b, c] := by
    match z, hl with
    | [a, b, c], _ => exact ⟨a, b, c, rfl⟩
  have gn := gd_nest hnd hnm
  have gp := gd_plain hsd hnd hnm
  unfold f_law
  dsimp only [List.take, List.drop]
  walk_at "ev"
  rw [show sliced (.own (.lst (nm.map D.str))) none (some 3) = some (.new (.lst ((nm.take 3).map D.str))) from by rw [show sliced (.own (.lst (nm.map D.str))) none (some 3) = some (.new (.lst ((nm.map D.str).take 3))) from sl_to (k := 3) (by rw [List.length_map]; omega), List.map_take]]
  walk_at "ev"
  rw [hst]
  walk_at "ev"
  rw [init0]
  walk_at "ev"
  try (rw [init0]; walk_at "ev")
  refine wp_kind (N := 8) pres_nest gn ?_
  walk_at "ev"
  try (rw [init0]; walk_at "ev")
  refine wp_kind (N := 8) (pres_plain (t := 1)).1 gp ?_
  walk_at "ev"
  rw [wp_cmp_an rfl, eqm0]
  walk_at "ev"
  refine wp_callD2 (keq_c (N := 13) gn gp) ?_
  rw [decide_eq_false txt_ne]
  walk_at "ev"
  refine wp_callD2 same_bl ?_
  walk_at "ev"
  try (rw [init0]; walk_at "ev")
  refine wp_kind (N := 8) (pres_plain (t := 1)).1 gp ?_
  walk_at "ev"
  trace_state
  try (rw [init0]; walk_at "ev")
  refine wp_kind (N := 8) (pres_plain (t := 1)).2 gp ?_
  walk_at "ev"
  rw [wp_cmp_nn, eqm0]
  walk_at "ev"
  refine wp_callD2 (keq_c (N := 13) gp gp) ?_
  rw [decide_eq_true rfl]
  walk_at "ev"
  refine wp_callD2 same_bl ?_
  walk_at "ev"
  rw [ccon0]; walk_at "ev"; rw [ccon1]; walk_at "ev"; rw [ccon2]
  walk_at "ev"
  refine wp_callD2 (same_c 1 12 1 _ _ (by simp [Eqv, EqvL]) (by decide)) ?_
  walk_at "ev"
end MV
set_option maxHeartbeats 4000000
namespace MV
open PySem
theorem maths_w (ns : List Int) : Wp (execs info (callF info fns 0 14) [] 0 f_law.body) ⟨0, [some (.d (.scr ns)), none, none, none, none, none, none, none, none, none, none, none, none, none, none, none, none]⟩ fun fl e => fl = .ret (.d (.bl true)) := by
  refine ws_cut 5 _ (law1 ns) ?_
  rintro e ⟨st, nm, l, r, s4, sp, hst, n1, n2, n3, h4, hg, rfl⟩
  refine ws_cut 2 _ (law2 ns st nm l r s4 sp hst n1 n2 n3 h4 hg) ?_
  rintro e ⟨st2, fr, s5, hs2, gf, h5, rfl⟩
  rw [List.drop_drop]
  refine ws_cut 6 _ (law3 ns st2 nm l .non .non s5 sp fr hs2 hg.gd h5 (srt (nms 4 l))) ?_
  rintro e ⟨st3, s3, s8, hs3, rfl⟩
  rw [List.drop_drop]
  refine ws_cut 3 _ (law4 st3 nm l fr s5 s3 s8 hs3 hg.gd gf h5) ?_
  rintro e ⟨st4, v, hs4, rfl⟩
  rw [List.drop_drop]
  refine ws_cut 1 _ (law5 st4 nm l fr v s3 s8 hg.gd gf) ?_
  rintro e ⟨s0, s1, s3, s4, s5, s6, s7, s8, s9, s10, s11, s12, s15, s16, rfl⟩
  rw [List.drop_drop]
  exact law6 nm n1 n2 n3 s0 s1 s3 s4 s5 s6 s7 s8 s9 s10 s11 s12 s15 s16
theorem maths0 (ns : List Int) : ∃ e', execs infoL.info (callF infoL.info fns 0 14) [] 0 f_law.body ⟨0, some (.d (.scr ns)) :: List.replicate 16 none⟩ = .ok (.ret (.d (.bl true))) e' := by
  obtain ⟨fl, e, h1, h2⟩ := wp_eq (maths_w ns)
  subst h2
  exact ⟨e, h1⟩
end MV
set_option maxHeartbeats 0
namespace MV
open PySem PySem.Spec L2
def top (i : Nat) : Stmt := PySem.Challenge.pw_nestback_k01_kind_fields.main.body.getD i (.Pass ⟨0, 0, 0, 0⟩)
def tab : Tab where
  fn := [("_law_all", 4, 1), ("_law_copied", 5, 1), ("_law_given", 6, 2), ("_law_grown", 7, 3), ("_law_kind_is", 8, 2), ("_law_kind_text", 9, 1), ("_law_level", 10, 3), ("_law_names", 11, 2), ("_law_pick", 12, 2), ("_law_renamed", 13, 3), ("_law_same", 14, 2), ("_law_start", 15, 1), ("checked_level", 16, 4), ("level_names", 17, 1), ("level_text", 18, 1), ("_law_draw", 19, 2), ("_law_at", 20, 2), ("_law_homes", 21, 2), ("_law_with", 22, 3), ("_law_depth", 24, 1), ("valid_name", 25, 1), ("_law_inner", 26, 2), ("level_depth", 27, 1)]
  mks := [("Kind", 0, 1)]
  gl := [("LETTERS", 0), ("MOST_LETTERS", 1), ("MOST_LEVELS", 2), ("MOST_COLUMNS", 3)]
  fld := [("level", 0), ("text", 1), ("names", 2), ("plain", 3), ("inner", 4)]
  prop := [("levels", 0)]
  cc := [("Kind", 0, "LEVELS", 0), ("Kind", 0, "COLUMNS", 1), ("Kind", 0, "LETTERS", 2)]
  ty := [("int", .int), ("bool", .bool), ("str", .str), ("tuple", .tuple), ("list", .list), ("Kind", .cls 0 [0])]
def e_KindD_initD : Ent := ⟨0, .meth "Kind" "__init__", "__init__", "Kind.__init__", defArgs (inClass (top 33) 3), defBody (inClass (top 33) 3), defScope (inClass (top 33) 3), ["self", "columns", "level", "names", "pair"], ["self", "columns"]⟩
theorem ok_KindD_initD : EntOk tab fns e_KindD_initD := ⟨⟨f_KindD_initD, rfl, rfl, rfl, by decide +kernel⟩, ⟨rfl, rfl, rfl, by decide +kernel, rfl, by decide +kernel, by decide +kernel⟩, fun _ _ _ _ _ _ us hl => match us, hl with | [_, _], _ => rfl⟩
def e_KindD_eqD : Ent := ⟨1, .meth "Kind" "__eq__", "__eq__", "Kind.__eq__", defArgs (inClass (top 33) 8), defBody (inClass (top 33) 8), defScope (inClass (top 33) 8), ["self", "other"], ["self", "other"]⟩
theorem ok_KindD_eqD : EntOk tab fns e_KindD_eqD := ⟨⟨f_KindD_eqD, rfl, rfl, rfl, by decide +kernel⟩, ⟨rfl, rfl, rfl, by decide +kernel, rfl, by decide +kernel, by decide +kernel⟩, fun _ _ _ _ _ _ us hl => match us, hl with | [_, _], _ => rfl⟩
def e_KindD_lenD : Ent := ⟨2, .meth "Kind" "__len__", "__len__", "Kind.__len__", defArgs (inClass (top 33) 11), defBody (inClass (top 33) 11), defScope (inClass (top 33) 11), ["self"], ["self"]⟩
theorem ok_KindD_lenD : EntOk tab fns e_KindD_lenD := ⟨⟨f_KindD_lenD, rfl, rfl, rfl, by decide +kernel⟩, ⟨rfl, rfl, rfl, by decide +kernel, rfl, by decide +kernel, by decide +kernel⟩, fun _ _ _ _ _ _ us hl => match us, hl with | [_], _ => rfl⟩
def e__law_all : Ent := ⟨4, .glo "_law_all", "_law_all", "_law_all", defArgs (top 41), defBody (top 41), defScope (top 41), ["_law_level_here", "_law_names_here", "_law_pair"], ["_law_level_here"]⟩
theorem ok__law_all : EntOk tab fns e__law_all := ⟨⟨f__law_all, rfl, rfl, rfl, by decide +kernel⟩, ⟨rfl, rfl, rfl, by decide +kernel, rfl, by decide +kernel, by decide +kernel⟩, fun _ _ _ _ _ _ us hl => match us, hl with | [_], _ => rfl⟩
def e__law_copied : Ent := ⟨5, .glo "_law_copied", "_law_copied", "_law_copied", defArgs (top 50), defBody (top 50), defScope (top 50), ["_law_given_here", "_law_part"], ["_law_given_here"]⟩
theorem ok__law_copied : EntOk tab fns e__law_copied := ⟨⟨f__law_copied, rfl, rfl, rfl, by decide +kernel⟩, ⟨rfl, rfl, rfl, by decide +kernel, rfl, by decide +kernel, by decide +kernel⟩, fun _ _ _ _ _ _ us hl => match us, hl with | [_], _ => rfl⟩
def e__law_given : Ent := ⟨6, .glo "_law_given", "_law_given", "_law_given", defArgs (top 49), defBody (top 49), defScope (top 49), ["_law_state", "_law_level_here", "_law_entries", "_law_pair", "_law_turn", "_law_entry"], ["_law_state", "_law_level_here"]⟩
theorem ok__law_given : EntOk tab fns e__law_given := ⟨⟨f__law_given, rfl, rfl, rfl, by decide +kernel⟩, ⟨rfl, rfl, rfl, by decide +kernel, rfl, by decide +kernel, by decide +kernel⟩, fun _ _ _ _ _ _ us hl => match us, hl with | [_, _], _ => rfl⟩
def e__law_grown : Ent := ⟨7, .glo "_law_grown", "_law_grown", "_law_grown", defArgs (top 48), defBody (top 48), defScope (top 48), ["_law_state", "_law_level_here", "_law_spare", "_law_mode", "_law_k", "_law_homes_here", "_law_path", "_law_deeper", "_law_here", "_law_plain"], ["_law_state", "_law_level_here", "_law_spare"]⟩
theorem ok__law_grown : EntOk tab fns e__law_grown := ⟨⟨f__law_grown, rfl, rfl, rfl, by decide +kernel⟩, ⟨rfl, rfl, rfl, by decide +kernel, rfl, by decide +kernel, by decide +kernel⟩, fun _ _ _ _ _ _ us hl => match us, hl with | [_, _, _], _ => rfl⟩
def e__law_kind_is : Ent := ⟨8, .glo "_law_kind_is", "_law_kind_is", "_law_kind_is", defArgs (top 53), defBody (top 53), defScope (top 53), ["_law_kind", "_law_level_here", "_law_every", "_law_each", "_law_pair"], ["_law_kind", "_law_level_here"]⟩
theorem ok__law_kind_is : EntOk tab fns e__law_kind_is := ⟨⟨f__law_kind_is, rfl, rfl, rfl, by decide +kernel⟩, ⟨rfl, rfl, rfl, by decide +kernel, rfl, by decide +kernel, by decide +kernel⟩, fun _ _ _ _ _ _ us hl => match us, hl with | [_, _], _ => rfl⟩
def e__law_kind_text : Ent := ⟨9, .glo "_law_kind_text", "_law_kind_text", "_law_kind_text", defArgs (top 40), defBody (top 40), defScope (top 40), ["_law_level_here", "_law_parts", "_law_pair"], ["_law_level_here"]⟩
theorem ok__law_kind_text : EntOk tab fns e__law_kind_text := ⟨⟨f__law_kind_text, rfl, rfl, rfl, by decide +kernel⟩, ⟨rfl, rfl, rfl, by decide +kernel, rfl, by decide +kernel, by decide +kernel⟩, fun _ _ _ _ _ _ us hl => match us, hl with | [_], _ => rfl⟩
def e__law_level : Ent := ⟨10, .glo "_law_level", "_law_level", "_law_level", defArgs (top 39), defBody (top 39), defScope (top 39), ["_law_state", "_law_names_here", "_law_depth_here", "_law_many", "_law_plain", "_law_tables", "_law_inner_here", "_law_k", "_law_name"], ["_law_state", "_law_names_here", "_law_depth_here"]⟩
theorem ok__law_level : EntOk tab fns e__law_level := ⟨⟨f__law_level, rfl, rfl, rfl, by decide +kernel⟩, ⟨rfl, rfl, rfl, by decide +kernel, rfl, by decide +kernel, by decide +kernel⟩, fun _ _ _ _ _ _ us hl => match us, hl with | [_, _, _], _ => rfl⟩
def e__law_names : Ent := ⟨11, .glo "_law_names", "_law_names", "_law_names", defArgs (top 38), defBody (top 38), defScope (top 38), ["_law_state", "_law_count", "_law_letters", "_law_start_here", "_law_step", "_law_mode", "_law_own", "_law_rest", "_law_fill", "_law_names_here", "_law_k", "_law_size", "_law_place", "_law_letter"], ["_law_state", "_law_count"]⟩
theorem ok__law_names : EntOk tab fns e__law_names := ⟨⟨f__law_names, rfl, rfl, rfl, by decide +kernel⟩, ⟨rfl, rfl, rfl, by decide +kernel, rfl, by decide +kernel, by decide +kernel⟩, fun _ _ _ _ _ _ us hl => match us, hl with | [_, _], _ => rfl⟩
def e__law_pick : Ent := ⟨12, .glo "_law_pick", "_law_pick", "_law_pick", defArgs (top 37), defBody (top 37), defScope (top 37), ["_law_state", "_law_things"], ["_law_state", "_law_things"]⟩
theorem ok__law_pick : EntOk tab fns e__law_pick := ⟨⟨f__law_pick, rfl, rfl, rfl, by decide +kernel⟩, ⟨rfl, rfl, rfl, by decide +kernel, rfl, by decide +kernel, by decide +kernel⟩, fun _ _ _ _ _ _ us hl => match us, hl with | [_, _], _ => rfl⟩
def e__law_renamed : Ent := ⟨13, .glo "_law_renamed", "_law_renamed", "_law_renamed", defArgs (top 52), defBody (top 52), defScope (top 52), ["_law_level_here", "_law_old", "_law_new", "_law_plain", "_law_inner_here", "_law_x", "_law_pair"], ["_law_level_here", "_law_old", "_law_new"]⟩
theorem ok__law_renamed : EntOk tab fns e__law_renamed := ⟨⟨f__law_renamed, rfl, rfl, rfl, by decide +kernel⟩, ⟨rfl, rfl, rfl, by decide +kernel, rfl, by decide +kernel, by decide +kernel⟩, fun _ _ _ _ _ _ us hl => match us, hl with | [_, _, _], _ => rfl⟩
def e__law_same : Ent := ⟨14, .glo "_law_same", "_law_same", "_law_same", defArgs (top 47), defBody (top 47), defScope (top 47), ["_law_actual", "_law_expected", "_law_k"], ["_law_actual", "_law_expected"]⟩
theorem ok__law_same : EntOk tab fns e__law_same := ⟨⟨f__law_same, rfl, rfl, rfl, by decide +kernel⟩, ⟨rfl, rfl, rfl, by decide +kernel, rfl, by decide +kernel, by decide +kernel⟩, fun _ _ _ _ _ _ us hl => match us, hl with | [_, _], _ => rfl⟩
def e__law_start : Ent := ⟨15, .glo "_law_start", "_law_start", "_law_start", defArgs (top 35), defBody (top 35), defScope (top 35), ["_law_script"], ["_law_script"]⟩
theorem ok__law_start : EntOk tab fns e__law_start := ⟨⟨f__law_start, rfl, rfl, rfl, by decide +kernel⟩, ⟨rfl, rfl, rfl, by decide +kernel, rfl, by decide +kernel, by decide +kernel⟩, fun _ _ _ _ _ _ us hl => match us, hl with | [_], _ => rfl⟩
def e_checked_level : Ent := ⟨16, .glo "checked_level", "checked_level", "checked_level", defArgs (top 31), defBody (top 31), defScope (top 31), ["columns", "home", "number", "seen", "plain", "inner", "column", "is_plain", "name", "below"], ["columns", "home", "number", "seen"]⟩
theorem ok_checked_level : EntOk tab fns e_checked_level := ⟨⟨f_checked_level, rfl, rfl, rfl, by decide +kernel⟩, ⟨rfl, rfl, rfl, by decide +kernel, rfl, by decide +kernel, by decide +kernel⟩, fun _ _ _ _ _ _ us hl => match us, hl with | [_, _, _, _], _ => rfl⟩
def e_level_names : Ent := ⟨17, .glo "level_names", "level_names", "level_names", defArgs (top 19), defBody (top 19), defScope (top 19), ["level", "names", "name", "below"], ["level"]⟩
theorem ok_level_names : EntOk tab fns e_level_names := ⟨⟨f_level_names, rfl, rfl, rfl, by decide +kernel⟩, ⟨rfl, rfl, rfl, by decide +kernel, rfl, by decide +kernel, by decide +kernel⟩, fun _ _ _ _ _ _ us hl => match us, hl with | [_], _ => rfl⟩
def e_level_text : Ent := ⟨18, .glo "level_text", "level_text", "level_text", defArgs (top 18), defBody (top 18), defScope (top 18), ["level", "parts", "name", "below"], ["level"]⟩
theorem ok_level_text : EntOk tab fns e_level_text := ⟨⟨f_level_text, rfl, rfl, rfl, by decide +kernel⟩, ⟨rfl, rfl, rfl, by decide +kernel, rfl, by decide +kernel, by decide +kernel⟩, fun _ _ _ _ _ _ us hl => match us, hl with | [_], _ => rfl⟩
def e__law_draw : Ent := ⟨19, .glo "_law_draw", "_law_draw", "_law_draw", defArgs (top 36), defBody (top 36), defScope (top 36), ["_law_state", "_law_limit", "_law_number", "_law_cell"], ["_law_state", "_law_limit"]⟩
theorem ok__law_draw : EntOk tab fns e__law_draw := ⟨⟨f__law_draw, rfl, rfl, rfl, by decide +kernel⟩, ⟨rfl, rfl, rfl, by decide +kernel, rfl, by decide +kernel, by decide +kernel⟩, fun _ _ _ _ _ _ us hl => match us, hl with | [_, _], _ => rfl⟩
def e__law_at : Ent := ⟨20, .glo "_law_at", "_law_at", "_law_at", defArgs (top 44), defBody (top 44), defScope (top 44), ["_law_level_here", "_law_path", "_law_name"], ["_law_level_here", "_law_path"]⟩
theorem ok__law_at : EntOk tab fns e__law_at := ⟨⟨f__law_at, rfl, rfl, rfl, by decide +kernel⟩, ⟨rfl, rfl, rfl, by decide +kernel, rfl, by decide +kernel, by decide +kernel⟩, fun _ _ _ _ _ _ us hl => match us, hl with | [_, _], _ => rfl⟩
def e__law_homes : Ent := ⟨21, .glo "_law_homes", "_law_homes", "_law_homes", defArgs (top 46), defBody (top 46), defScope (top 46), ["_law_level_here", "_law_path", "_law_homes_here", "_law_pair"], ["_law_level_here", "_law_path"]⟩
theorem ok__law_homes : EntOk tab fns e__law_homes := ⟨⟨f__law_homes, rfl, rfl, rfl, by decide +kernel⟩, ⟨rfl, rfl, rfl, by decide +kernel, rfl, by decide +kernel, by decide +kernel⟩, fun _ _ _ _ _ _ us hl => match us, hl with | [_, _], _ => rfl⟩
def e__law_with : Ent := ⟨22, .glo "_law_with", "_law_with", "_law_with", defArgs (top 45), defBody (top 45), defScope (top 45), ["_law_level_here", "_law_path", "_law_fresh", "_law_inner_here", "_law_pair"], ["_law_level_here", "_law_path", "_law_fresh"]⟩
theorem ok__law_with : EntOk tab fns e__law_with := ⟨⟨f__law_with, rfl, rfl, rfl, by decide +kernel⟩, ⟨rfl, rfl, rfl, by decide +kernel, rfl, by decide +kernel, by decide +kernel⟩, fun _ _ _ _ _ _ us hl => match us, hl with | [_, _, _], _ => rfl⟩
def e_Kind_levels : Ent := ⟨23, .prop "Kind" "levels", "levels", "Kind.levels", defArgs (inClass (top 33) 5), defBody (inClass (top 33) 5), defScope (inClass (top 33) 5), ["self"], ["self"]⟩
theorem ok_Kind_levels : EntOk tab fns e_Kind_levels := ⟨⟨f_Kind_levels, rfl, rfl, rfl, by decide +kernel⟩, ⟨rfl, rfl, rfl, by decide +kernel, rfl, by decide +kernel, by decide +kernel⟩, fun _ _ _ _ _ _ us hl => match us, hl with | [_], _ => rfl⟩
def e__law_depth : Ent := ⟨24, .glo "_law_depth", "_law_depth", "_law_depth", defArgs (top 42), defBody (top 42), defScope (top 42), ["_law_level_here", "_law_pair"], ["_law_level_here"]⟩
theorem ok__law_depth : EntOk tab fns e__law_depth := ⟨⟨f__law_depth, rfl, rfl, rfl, by decide +kernel⟩, ⟨rfl, rfl, rfl, by decide +kernel, rfl, by decide +kernel, by decide +kernel⟩, fun _ _ _ _ _ _ us hl => match us, hl with | [_], _ => rfl⟩
def e_valid_name : Ent := ⟨25, .glo "valid_name", "valid_name", "valid_name", defArgs (top 16), defBody (top 16), defScope (top 16), ["name", "letter"], ["name"]⟩
theorem ok_valid_name : EntOk tab fns e_valid_name := ⟨⟨f_valid_name, rfl, rfl, rfl, by decide +kernel⟩, ⟨rfl, rfl, rfl, by decide +kernel, rfl, by decide +kernel, by decide +kernel⟩, fun _ _ _ _ _ _ us hl => match us, hl with | [_], _ => rfl⟩
def e__law_inner : Ent := ⟨26, .glo "_law_inner", "_law_inner", "_law_inner", defArgs (top 43), defBody (top 43), defScope (top 43), ["_law_level_here", "_law_name", "_law_pair"], ["_law_level_here", "_law_name"]⟩
theorem ok__law_inner : EntOk tab fns e__law_inner := ⟨⟨f__law_inner, rfl, rfl, rfl, by decide +kernel⟩, ⟨rfl, rfl, rfl, by decide +kernel, rfl, by decide +kernel, by decide +kernel⟩, fun _ _ _ _ _ _ us hl => match us, hl with | [_, _], _ => rfl⟩
def e_level_depth : Ent := ⟨27, .glo "level_depth", "level_depth", "level_depth", defArgs (top 20), defBody (top 20), defScope (top 20), ["level", "deepest", "pair"], ["level"]⟩
theorem ok_level_depth : EntOk tab fns e_level_depth := ⟨⟨f_level_depth, rfl, rfl, rfl, by decide +kernel⟩, ⟨rfl, rfl, rfl, by decide +kernel, rfl, by decide +kernel, by decide +kernel⟩, fun _ _ _ _ _ _ us hl => match us, hl with | [_], _ => rfl⟩
def e_KindD_iterD : Ent := ⟨3, .meth "Kind" "__iter__", "__iter__", "Kind.__iter__", defArgs (inClass (top 33) 12), defBody (inClass (top 33) 12), defScope (inClass (top 33) 12), ["self"], ["self"]⟩
def e_law : Ent := ⟨0, .glo "law", "law", "law", defArgs (top 54), defBody (top 54), defScope (top 54), ["_law_script", "_law_state", "_law_names_here", "_law_spare", "_law_level_here", "_law_fresh", "_law_flat", "_law_given_here", "_law_kept", "_law_kind", "_law_twin", "_law_other", "_law_plain", "_law_three", "_law_nested", "_law_each", "_law_here"], ["_law_script"]⟩
theorem c_law : okTop tab e_law.N e_law.scope f_law.body e_law.body = true := by decide +kernel
def e__law_emptied : Ent := ⟨0, .glo "_law_emptied", "_law_emptied", "_law_emptied", defArgs (top 51), defBody (top 51), defScope (top 51), ["_law_given_here", "_law_part"], ["_law_given_here"]⟩
theorem c_emp : empB e__law_emptied.scope "_law_given_here" "_law_part" e__law_emptied.body = true := by decide +kernel
def es : List Ent := [e_KindD_initD, e_KindD_eqD, e_KindD_lenD, e__law_all, e__law_copied, e__law_given, e__law_grown, e__law_kind_is, e__law_kind_text, e__law_level, e__law_names, e__law_pick, e__law_renamed, e__law_same, e__law_start, e_checked_level, e_level_names, e_level_text, e__law_draw, e__law_at, e__law_homes, e__law_with, e_Kind_levels, e__law_depth, e_valid_name, e__law_inner, e_level_depth]
theorem es_ok : ∀ e ∈ es, EntOk tab fns e := by
  unfold es
  simp only [List.forall_mem_cons, List.forall_mem_nil]
  exact ⟨ok_KindD_initD, ok_KindD_eqD, ok_KindD_lenD, ok__law_all, ok__law_copied, ok__law_given, ok__law_grown, ok__law_kind_is, ok__law_kind_text, ok__law_level, ok__law_names, ok__law_pick, ok__law_renamed, ok__law_same, ok__law_start, ok_checked_level, ok_level_names, ok_level_text, ok__law_draw, ok__law_at, ok__law_homes, ok__law_with, ok_Kind_levels, ok__law_depth, ok_valid_name, ok__law_inner, ok_level_depth, fun _ h => (by cases h)⟩
def rs : List Ent := es ++ [e_KindD_iterD, e_law, e__law_emptied]
def hd : Hd := ⟨[(0, "Kind")], [(0, "level"), (1, "text"), (2, "names"), (3, "plain"), (4, "inner")], 2⟩
def ex (K : PySem.W.Frag) : Bool := exB tab infoL hd (entsOf es) K && exM tab infoL hd (entsOf es) K && isRef (PySem.W.nsIn K mainGlobals "_law_emptied") (He.ga K "_law_emptied") && PySem.W.keepIn K (.ref (He.ga K "_law_emptied")) && isRef (PySem.W.nsIn K mainGlobals "law") (He.ga K "law")
theorem c_names : exN hd = true := by decide +kernel
end MV
set_option maxHeartbeats 0
namespace MV
open PySem PySem.Spec PyProof.Rows L2
def names0 : List PySem.Str := ["_wall", "NestError", "BadName", "NameTaken", "NoPlain", "TooDeep", "UnknownColumn", "NotATable", "TooWide", "BadText", "valid_name", "level_columns", "level_text", "level_names", "level_depth", "plain_below", "columns_of", "inner_level", "column_path", "level_at", "Reader", "take_columns", "read_columns", "checked_level", "table_level", "Kind", "_law_start", "_law_draw", "_law_pick", "_law_names"]
def names1 : List PySem.Str := ["_law_level", "_law_kind_text", "_law_all", "_law_depth", "_law_inner", "_law_at", "_law_with", "_law_homes", "_law_same", "_law_grown", "_law_given", "_law_copied", "_law_emptied", "_law_renamed", "_law_kind_is", "LETTERS", "MOST_LETTERS", "MOST_LEVELS", "MOST_COLUMNS"]
def names : List PySem.Str := names0 ++ names1
abbrev RR : PySem.W.OpenRow := PySem.W.OpenLaw.row PySem.Challenge.rw_nestback_k01_kind_fields
abbrev hk : PySem.W.Hook := hookM 5 rs ex
def ob (s : PySem.W.SharedT) : AlM := obsMG 5 rs ex (HandSHeadRun.getT s)
theorem ob_eq (s : PySem.W.SharedT) : ob s = hk.obs s.abs := obsMG_eq (HandSHeadRun.getT_eq s)
theorem run (w : World) : HandSHeadRun.RunEq RR (PySem.W.view RR.prog [54]) hk ob 12000 names w := by
  intro os
  kernel_rfl
end MV
set_option maxHeartbeats 0
namespace MV
open PySem PySem.Spec PyProof.Rows L2
theorem maths (ns : List Int) (hl : ns.length ≤ 63) : ∃ e', execs infoL.info (callF infoL.info fns 0 14) [] 0 f_law.body ⟨0, some (.d (.scr ns)) :: List.replicate (e_law.N.length - 1) none⟩ = .ok (.ret (.d (.bl true))) e' := maths0 ns
theorem headOk {P : Program} {w : World} {K : PySem.W.Frag} {h : Heap} {mg : Str → Option Value} {base : Heap} (X : K.In h) (G : h.Ns mainGlobals mg) (c : SaysM rs ex K) : HeadOk ⟨P, w, K, mg, base, CX0⟩ tab infoL hd es fns h := by
  have hx := c.exb
  unfold ex at hx
  simp only [Bool.and_eq_true] at hx
  refine ⟨X, G, hx.1.1.1.1, hx.1.1.1.2, c_names, fun _ => pass0, es_ok, fun e he => c.fe e (List.mem_append_left _ he), fun c' f x q1 q2 => ?_⟩
  cases q1
  cases q2
  obtain ⟨oc, od, kV, doc, pm, an, cdv, ct, osl, r1, r2⟩ := c.fe e_KindD_iterD (by unfold rs; simp)
  exact ⟨rfl, _, _, _, _, _, _, _, _, _, _, _, _, _, _, "self", _, _, _, _, _, ⟨0, 0, 0, 0⟩, r1, r2, ⟨rfl, rfl, rfl, by decide +kernel, rfl, by decide +kernel, by decide +kernel⟩, .all fun us hl => match us, hl with | [_], _ => rfl, by decide +kernel, by decide +kernel⟩
theorem lawOk {P : Program} {w : World} {K : PySem.W.Frag} {h : Heap} {mg : Str → Option Value} (X : K.In h) (G : h.Ns mainGlobals mg) (c : SaysM rs ex K) :
    ∃ fd, (∀ (s : Shared) (u : Value), BindsTo s fd ⟨[u], []⟩ [("_law_script", u)]) ∧ ∀ base : Heap, FnOk P w K mg base CX0 31 (He.ga K "law") fd ["_law_script"] (spLaw K) := by
  have hx := c.exb
  unfold ex at hx
  simp only [Bool.and_eq_true] at hx
  obtain ⟨oc, od, kV, doc, pm, an, cdv, ct, osl, r1, r2⟩ := c.fe e_law (by unfold rs; simp)
  have hb : ∀ u : Value, bindArgs (PySem.W.fnOf e_law.name e_law.qual e_law.params e_law.body e_law.scope .none kV doc pm an cdv ct) ⟨[u], []⟩ = (pure [(("_law_script" : PySem.Str), u)] : Sem (List (PySem.Str × Value))) := fun u => rfl
  refine ⟨_, fun s u => .of_eq (hb u), fun base => ?_⟩
  exact law_ok (n := 14) (fuel := 0) (headOk (P := P) (w := w) (base := base) X G c) (e := e_law) (eE := e__law_emptied) (x := "_law_script") (gn := "_law_given_here") (qn := "_law_part") (body := f_law.body) (by decide) r1 r2 ⟨rfl, rfl, rfl, by decide +kernel, rfl, by decide +kernel, by decide +kernel⟩ c_law
    (c.fe e__law_emptied (by unfold rs; simp)) rfl ⟨rfl, rfl, rfl, by decide +kernel, rfl, by decide +kernel, by decide +kernel⟩ c_emp hx.1.1.2 hx.1.2 (fun _ _ _ _ _ _ us hl => match us, hl with | [_], _ => rfl) maths
end MV
open PySem PySem.W PySem.Calls PyProof.Rows
theorem PySem.Challenge.cw_nestback_k01_kind_fields_holds : PySem.Challenge.rw_nestback_k01_kind_fields.Holds := by
  w_on; o_law
  refine HandSHeadRun.head_any (r := OpenLaw.row PySem.Challenge.rw_nestback_k01_kind_fields) (q := view (OpenLaw.row PySem.Challenge.rw_nestback_k01_kind_fields).prog [54]) (H := MV.hk) (ob := MV.ob) (M := 12000) (loose := MV.names) (d := HandSHeadRun.topDef (OpenLaw.row PySem.Challenge.rw_nestback_k01_kind_fields).prog 54) (kwd := []) MV.ob_eq
    (by kernel_rfl) (fun s => by kernel_rfl) MV.run (by kernel_rfl) (by kernel_rfl) (by kernel_rfl) (by rfl) (by first | assumption | decide +kernel) (by decide +kernel) ⟨rfl, rfl, rfl, rfl, rfl, by decide +kernel⟩ ?hw ?hc
  case hw => w_witness2
  case hc =>
    refine L2.walk_ofE (l := PySem.Challenge.rw_nestback_k01_kind_fields) (n := 63) (k := 31) (x := "_law_script") (CX := L2.CX0) rfl (by decide) (by kernel_rfl) ⟨rfl, by decide, by decide⟩ ?F (fun _ _ _ _ z => z)
    intro w mg fa h Y G hmg0
    obtain ⟨K, KX, c⟩ := Y
    have hmg : mg ("law" : PySem.Str) = some (.ref fa) := by
      have e : (HandSHeadRun.topDef (OpenLaw.row PySem.Challenge.rw_nestback_k01_kind_fields).prog 54).name = ("law" : PySem.Str) := by kernel_rfl
      rw [← e]
      exact hmg0
    have hga : fa = He.ga K "law" := by
      have h2 := (c.fe MV.e_law (by unfold MV.rs; simp))
      have h3 : mg "law" = some (.ref (He.ga K "law")) := by
        have hx := c.exb
        unfold MV.ex at hx
        simp only [Bool.and_eq_true] at hx
        exact W.mg_of KX G (MV.isRef_ok hx.2)
      rw [hmg] at h3
      cases h3
      rfl
    subst hga
    obtain ⟨fd, hb, hF⟩ := MV.lawOk (P := (PySem.Challenge.rw_nestback_k01_kind_fields).prog) (w := w) KX G c
    exact ⟨K, fd, MV.spLaw K, KX, hb, fun H a ns hl _ hS => ⟨a, ns, rfl, hl, hS, fun _ => rfl⟩, fun base _ _ => hF base⟩
