import PyProof.Rows.All
import PySem.Str
import Wide.All
import OpenK.AllK
import Wide.FinOn
import HandS.ForMost
import HandS.ForExc
import HandS.IsInst
import KE.GoesEnum
import HandS.Small
import HandS.DictTup
import KE.KDictDisplayH
import KE.KDictCopyH
import HandS.Zip
import HandS.TupLe
import HandS.Style
import HandS.RaiseMore
import HandS.TryOnly
import HandS.Conv
import HandS.DictComp
import HandS.TupLen
import HandS.Finally
import PySem.Challenge.RW_joinshelf_k82_whole_books_just_one
set_option Elab.async false
set_option linter.all false
set_option maxRecDepth 100000
set_option maxHeartbeats 4000000
namespace J
open PySem

abbrev Key := Sum Int Str

/-- data: trees; scr: the script, a list that is read alone; loc: a mutable cell by its number; fn: a def of the module, by its name; obj: an instance of the class with a number -/
inductive D where
  | non
  | bl (b : Bool)
  | int (i : Int)
  | str (x : Str)
  | tup (ds : List D)
  | lst (ds : List D)
  | dK (kvs : List (Key × D))
  | dT (kvs : List (List Key × D))
  | obj (c : Nat) (ds : List D)
  | loc (l : Nat)
  | fn (x : Str)
  | ty (n : String)
  | scr (ds : List D)
instance : Inhabited D := ⟨.non⟩

/-- a mutable cell -/
inductive Cell where
  | lst (ds : List D)
  | dK (kvs : List (Key × D))
  | dT (kvs : List (List Key × D))
  | ins (c : Nat) (ds : List D)

@[simp] def Cell.tree : Cell → D
  | .lst ds => .lst ds
  | .dK kvs => .dK kvs
  | .dT kvs => .dT kvs
  | .ins c ds => .obj c ds

/-- a slot: not known; a value; a cell of this frame's own -/
inductive Sl where
  | un
  | sh (d : D)
  | ow (c : Cell)

abbrev Mem := List Cell
abbrev Env := List Sl

inductive R (α : Type) where
  | ok (a : α) (m : Mem)
  | exc (c : Nat) (ds : List D) (m : Mem)
  | bad

@[simp] def R.bind {α β : Type} (r : R α) (f : α → Mem → R β) : R β :=
  match r with
  | .ok a m => f a m
  | .exc c ds m => .exc c ds m
  | .bad => .bad

/-- how a statement ends -/
inductive Fl where
  | nx | bk | ct
  | rt (d : D)
  | ex (c : Nat) (ds : List D)

def sizeMax : Nat := 16777216

abbrev CE := Env → Mem → R D
abbrev CT := Env → Mem → R Bool
abbrev CA := Env → Mem → R (List D)
abbrev CO := Env → Mem → R (Option Int)
abbrev CS := Env → Mem → R (Fl × Env)
abbrev Fn := List D → Mem → R D

@[simp] def ofO {α : Type} (o : Option α) (m : Mem) : R α := match o with | some a => .ok a m | none => .bad

/-! ### operations by value -/
mutual
def eqD : D → D → Bool
  | .non, .non => true
  | .bl a, .bl b => a == b
  | .bl a, .int j => (if a then 1 else 0) == j
  | .int i, .bl b => i == (if b then 1 else 0)
  | .int i, .int j => i == j
  | .str x, .str y => x == y
  | .lst xs, .lst ys => eqDs xs ys
  | .tup xs, .tup ys => eqDs xs ys
  | _, _ => false
def eqDs : List D → List D → Bool
  | [], [] => true
  | x :: xs, y :: ys => eqD x y && eqDs xs ys
  | _, _ => false
end
mutual
/-- plain data that is no deeper than n -/
def flatD : Nat → D → Bool
  | _, .non => true
  | _, .bl _ => true
  | _, .int _ => true
  | _, .str x => x.cps.all (· < 1114112)
  | n + 1, .lst xs => flatDs n xs
  | n + 1, .tup xs => flatDs n xs
  | _, _ => false
def flatDs : Nat → List D → Bool
  | _, [] => true
  | n, x :: xs => flatD n x && flatDs n xs
end
@[simp] def gAdd : D → D → Option D
  | .int a, .int b => some (.int (a + b))
  | .tup a, .tup b => if a.length + b.length ≤ sizeMax then some (.tup (a ++ b)) else none
  | .lst a, .lst b => if a.length + b.length ≤ sizeMax then some (.lst (a ++ b)) else none
  | _, _ => none
@[simp] def gSub : D → D → Option D
  | .int a, .int b => some (.int (a - b))
  | _, _ => none
def small64 (a : Int) : Bool := decide (-18446744073709551616 < a) && decide (a < 18446744073709551616)
def gMul : D → D → Option D
  | .int a, .int b => if small64 a || small64 b then some (.int (a * b)) else none
  | .tup a, .int b => if b.natAbs ≤ sizeMax ∧ a.length * b.toNat ≤ sizeMax then some (.tup (List.replicate b.toNat a).flatten) else none
  | .lst a, .int b => if b.natAbs ≤ sizeMax ∧ a.length * b.toNat ≤ sizeMax then some (.lst (List.replicate b.toNat a).flatten) else none
  | _, _ => none
def gMod : D → D → Option D
  | .int a, .int b => if 0 < b then some (.int (a % b)) else none
  | _, _ => none
def gDiv : D → D → Option D
  | .int a, .int b => if 0 < b ∧ b < 1073741824 then some (.int (a / b)) else none
  | _, _ => none
def gPow : D → D → Option D
  | .int a, .int b => if 0 ≤ b ∧ b ≤ 1000000 ∧ a.natAbs < 18446744073709551616 then some (.int (a ^ b.toNat)) else none
  | _, _ => none
@[simp] def gNeg : D → Option D
  | .int a => some (.int (-a))
  | _ => none
@[simp] def gLt : D → D → Option D
  | .int a, .int b => some (.bl (decide (a < b)))
  | _, _ => none
@[simp] def gLe : D → D → Option D
  | .int a, .int b => some (.bl (decide (a ≤ b)))
  | _, _ => none
@[simp] def gGt : D → D → Option D
  | .int a, .int b => some (.bl (decide (b < a)))
  | _, _ => none
@[simp] def gGe : D → D → Option D
  | .int a, .int b => some (.bl (decide (b ≤ a)))
  | _, _ => none
def gEq : D → D → Option D
  | .int a, .int b => some (.bl (decide (a = b)))
  | .str a, .str b => some (.bl (decide (a = b)))
  | a, b => if flatD 64 a && flatD 64 b then some (.bl (eqD a b)) else none
def gNe : D → D → Option D
  | .int a, .int b => some (.bl (!decide (a = b)))
  | .str a, .str b => some (.bl (!decide (a = b)))
  | a, b => if flatD 64 a && flatD 64 b then some (.bl (!eqD a b)) else none
@[simp] def isNon : D → Bool
  | .non => true
  | _ => false
@[simp] def gIsN (d : D) : Option D := some (.bl (isNon d))
@[simp] def gNotN (d : D) : Option D := some (.bl (!isNon d))
/-- x in a list or tuple of plain things -/
def flat1 : D → Bool
  | .non => true
  | .bl _ => true
  | .int _ => true
  | .str _ => true
  | _ => false
@[simp] def keyOf : D → Option Key
  | .int i => some (.inl i)
  | .str x => some (.inr x)
  | _ => none
def keysOf : List D → Option (List Key)
  | [] => some []
  | d :: ds => (keyOf d).bind fun k => (keysOf ds).bind fun ks => some (k :: ks)
def gIn : D → D → Option D
  | x, .tup ds => if flat1 x && ds.all flat1 then some (.bl (ds.any fun y => eqD y x)) else none
  | x, .lst ds => if flat1 x && ds.all flat1 then some (.bl (ds.any fun y => eqD y x)) else none
  | .int i, .dK kvs => some (.bl (kvs.any fun kv => decide (kv.1 = .inl i)))
  | .str i, .dK kvs => some (.bl (kvs.any fun kv => decide (kv.1 = .inr i)))
  | .tup ds, .dT kvs => (keysOf ds).map fun ks => .bl (kvs.any fun kv => decide (kv.1 = ks))
  | _, _ => none
@[simp] def gNot : D → Option D
  | .bl b => some (.bl (!b))
  | _ => none
def gNotIn (x y : D) : Option D := (gIn x y).bind gNot
def ixN (n : Nat) (i : Int) : Option Nat := if 0 ≤ i then (if i < n then some i.toNat else none) else if -(n : Int) ≤ i then some (i + n).toNat else none
def look {κ : Type} [DecidableEq κ] (kvs : List (κ × D)) (k : κ) : Option D := (kvs.find? fun kv => decide (kv.1 = k)).map (·.2)
def put {κ : Type} [DecidableEq κ] (kvs : List (κ × D)) (k : κ) (v : D) : List (κ × D) :=
  if (kvs.any fun kv => decide (kv.1 = k)) = true then kvs.map fun kv => if kv.1 = k then (kv.1, v) else kv else kvs ++ [(k, v)]
@[simp] def gIx : D → D → Option D
  | .tup ds, .int i => (ixN ds.length i).bind fun j => ds[j]?
  | .lst ds, .int i => (ixN ds.length i).bind fun j => ds[j]?
  | .dK kvs, k => (keyOf k).bind (look kvs)
  | .dT kvs, .tup ds => (keysOf ds).bind (look kvs)
  | _, _ => none
/-- a slice's end -/
def sIx (n d : Nat) : Option Int → Nat
  | none => d
  | some v => if v < 0 then (v + (n : Int)).toNat else min v.toNat n
def cutD (ds : List D) (lo hi : Option Int) : List D := (ds.drop (sIx ds.length 0 lo)).take (sIx ds.length ds.length hi - sIx ds.length 0 lo)
@[simp] def gSl (d : D) (lo hi : Option Int) : Option D := match d with
  | .tup ds => some (.tup (cutD ds lo hi))
  | .lst ds => some (.lst (cutD ds lo hi))
  | .scr ds => some (.lst (cutD ds lo hi))
  | _ => none
def intsD : List D → Option (List Int)
  | [] => some []
  | .int i :: ds => (intsD ds).map (i :: ·)
  | _ => none
def boolsD : List D → Option (List Bool)
  | [] => some []
  | .bl i :: ds => (boolsD ds).map (i :: ·)
  | _ => none
@[simp] def seq : D → Option (List D)
  | .lst ds => some ds
  | .tup ds => some ds
  | _ => none
@[simp] def gLen : D → Option D
  | .lst ds => some (.int ds.length)
  | .tup ds => some (.int ds.length)
  | .dK kvs => some (.int kvs.length)
  | _ => none
def gSum (d : D) : Option D := (seq d).bind fun ds => (intsD ds).map fun ns => .int ns.sum
def minL : List Int → Option Int
  | [] => none
  | n :: ns => some (ns.foldl min n)
def maxL : List Int → Option Int
  | [] => none
  | n :: ns => some (ns.foldl max n)
def gMin (d : D) : Option D := (seq d).bind fun ds => (intsD ds).bind fun ns => (minL ns).map .int
def gMax (d : D) : Option D := (seq d).bind fun ds => (intsD ds).bind fun ns => (maxL ns).map .int
@[simp] def gMin2 : D → D → Option D
  | .int a, .int b => some (.int (min a b))
  | _, _ => none
@[simp] def gMax2 : D → D → Option D
  | .int a, .int b => some (.int (max a b))
  | _, _ => none
def gAll : D → Option D
  | .lst ds => (boolsD ds).map fun bs => .bl (bs.all id)
  | _ => none
def gAny : D → Option D
  | .lst ds => (boolsD ds).map fun bs => .bl (bs.any id)
  | _ => none
@[simp] def gTuple (d : D) : Option D := (seq d).map .tup
@[simp] def gList (d : D) : Option D := (seq d).map .lst
@[simp] def gAbs : D → Option D
  | .int a => some (.int (if a < 0 then -a else a))
  | _ => none
@[simp] def gInt : D → Option D
  | .int a => some (.int a)
  | .bl b => some (.int (if b then 1 else 0))
  | _ => none
/-- a value's built-in type -/
def tyD : D → Option String
  | .non => some "NoneType"
  | .bl _ => some "bool"
  | .int _ => some "int"
  | .str _ => some "str"
  | .tup _ => some "tuple"
  | .lst _ => some "list"
  | .dK _ => some "dict"
  | _ => none
def subTy (a b : String) : Bool := a == b || (a == "bool" && b == "int")
/-- isinstance -/
def isI (n : String) (d : D) : Option Bool := (tyD d).map fun a => subTy a n
def gIsI (n : String) (d : D) : Option D := (isI n d).map .bl

/-! ### reading -/
/-- a value seen through its cell -/
def view (M : Mem) : D → D
  | .loc l => match M[l]? with | some c => c.tree | none => .non
  | d => d

@[simp] def cV (i : Nat) : CE := fun E M => match E[i]? with | some (.sh d) => .ok d M | _ => .bad
@[simp] def cC (d : D) : CE := fun _ M => .ok d M
/-- a frame's own cell, read -/
@[simp] def oV (i : Nat) : CE := fun E M => match E[i]? with | some (.ow c) => .ok c.tree M | _ => .bad

@[simp] def c1 (g : D → Option D) (f : CE) : CE := fun E M => (f E M).bind fun d M => ofO (g (view M d)) M
@[simp] def oNone : CO := fun _ M => .ok none M
@[simp] def oSome (f : CE) : CO := fun E M => (f E M).bind fun d M => match d with | .int i => .ok (some i) M | _ => .bad
/-- a slice -/
@[simp] def cSl (f : CE) (o1 o2 : CO) : CE := fun E M => (f E M).bind fun d M => (o1 E M).bind fun lo M => (o2 E M).bind fun hi M => ofO (gSl (view M d) lo hi) M
@[simp] def c2 (g : D → D → Option D) (f1 f2 : CE) : CE := fun E M => (f1 E M).bind fun d1 M => (f2 E M).bind fun d2 M => ofO (g (view M d1) (view M d2)) M
@[simp] def cIf (t : CT) (f1 f2 : CE) : CE := fun E M => (t E M).bind fun b M => if b = true then f1 E M else f2 E M
@[simp] def aNil : CA := fun _ M => .ok [] M
@[simp] def aCons (f : CE) (g : CA) : CA := fun E M => (f E M).bind fun d M => (g E M).bind fun ds M => .ok (d :: ds) M
@[simp] def cTup (g : CA) : CE := fun E M => (g E M).bind fun ds M => if ds.length ≤ sizeMax then .ok (.tup ds) M else .bad
@[simp] def cLst (g : CA) : CE := fun E M => (g E M).bind fun ds M => if ds.length ≤ sizeMax then .ok (.lst ds) M else .bad
/-- and, or as values (boolsD) -/
@[simp] def cAnd (f1 f2 : CE) : CE := fun E M => (f1 E M).bind fun d M => match d with | .bl b => if b = true then f2 E M else .ok (.bl false) M | _ => .bad
@[simp] def cOr (f1 f2 : CE) : CE := fun E M => (f1 E M).bind fun d M => match d with | .bl b => if b = true then .ok (.bl true) M else f2 E M | _ => .bad
@[simp] def cNot (f : CE) : CE := fun E M => (f E M).bind fun d M => match d with | .bl b => .ok (.bl (!b)) M | _ => .bad
/-- a < b < c -/
@[simp] def cCh (g1 g2 : D → D → Option D) (f1 f2 f3 : CE) : CE := fun E M => (f1 E M).bind fun d1 M => (f2 E M).bind fun d2 M => match g1 (view M d1) (view M d2) with
  | some (.bl b) => if b = true then (f3 E M).bind fun d3 M => ofO (g2 (view M d2) (view M d3)) M else .ok (.bl false) M
  | _ => .bad

/-! ### tests -/
@[simp] def tV (f : CE) : CT := fun E M => (f E M).bind fun d M => match d with | .bl b => .ok b M | _ => .bad
@[simp] def tAnd (t1 t2 : CT) : CT := fun E M => (t1 E M).bind fun b M => if b = true then t2 E M else .ok false M
@[simp] def tOr (t1 t2 : CT) : CT := fun E M => (t1 E M).bind fun b M => if b = true then .ok true M else t2 E M
@[simp] def tNot (t : CT) : CT := fun E M => (t E M).bind fun b M => .ok (!b) M
@[simp] def tYes : CT := fun _ M => .ok true M

/-! ### calls -/
@[simp] def cCall (F : Fn) (g : CA) : CE := fun E M => (g E M).bind fun ds M => F ds M
/-- nothing is raised -/
@[simp] def R.nox {α : Type} (r : R α) : R α := match r with | .exc _ _ _ => .bad | r => r
@[simp] def cCall0 (F : Fn) (g : CA) : CE := fun E M => (g E M).bind fun ds M => (F ds M).nox
/-- o.m(..), o an instance of the class c -/
@[simp] def cMeth (c : Nat) (F : Fn) (o : CE) (g : CA) : CE := fun E M => (o E M).bind fun d M => match view M d with
  | .obj c' _ => if c' = c then (g E M).bind fun ds M => (F (d :: ds) M).nox else .bad
  | _ => .bad
/-- o.f, by the field's place -/
@[simp] def gFld (c j : Nat) : D → Option D
  | .obj c' ds => if c' = c then ds[j]? else none
  | _ => none

/-! ### what is walked -/
@[simp] def items : D → Option (List D)
  | .lst ds => some ds
  | .tup ds => some ds
  | .scr ds => some ds
  | _ => none
def upFrom (a : Int) : Nat → List D
  | 0 => []
  | n + 1 => .int a :: upFrom (a + 1) n
@[simp] def iSeq (f : CE) : CA := fun E M => (f E M).bind fun d M => ofO (items d) M
@[simp] def iRng (f : CE) : CA := fun E M => (f E M).bind fun d M => match d with
  | .int n => if n.natAbs ≤ sizeMax then .ok (upFrom 0 n.toNat) M else .bad
  | _ => .bad
@[simp] def iRng2 (f1 f2 : CE) : CA := fun E M => (f1 E M).bind fun d1 M => (f2 E M).bind fun d2 M => match d1, d2 with
  | .int a, .int b => if a.natAbs ≤ sizeMax ∧ b.natAbs ≤ sizeMax ∧ (b - a).toNat ≤ sizeMax then .ok (upFrom a (b - a).toNat) M else .bad
  | _, _ => .bad
def pairUp : List D → List D → List D
  | a :: as, b :: bs => .tup [a, b] :: pairUp as bs
  | _, _ => []
@[simp] def iEnum (f : CE) : CA := fun E M => (f E M).bind fun d M => match items d with
  | some ds => .ok (pairUp (upFrom 0 ds.length) ds) M
  | none => .bad
@[simp] def iZip (f1 f2 : CE) : CA := fun E M => (f1 E M).bind fun d1 M => (f2 E M).bind fun d2 M => match items d1, items d2 with
  | some ds, some es => .ok (pairUp ds es) M
  | _, _ => .bad

/-! ### targets -/
abbrev CG := D → Env → Option Env
@[simp] def gN (i : Nat) : CG := fun d E => some (E.set i (.sh d))
@[simp] def gsN : List CG → List D → Env → Option Env
  | [], [], E => some E
  | g :: gs, d :: ds, E => (g d E).bind fun E => gsN gs ds E
  | _, _, _ => none
@[simp] def gT (gs : List CG) : CG := fun d E => match d with
  | .tup ds => gsN gs ds E
  | _ => none

/-! ### comprehensions -/
def wipe (E : Env) : List Nat → Env
  | [] => E
  | i :: r => (wipe E r).set i .un
def compL (vs : List Nat) (g : CG) (t : CT) (f : CE) : List D → CA
  | [], _, M => .ok [] M
  | d :: ds, E, M => match g d (wipe E vs) with
    | none => .bad
    | some E1 => (t E1 M).nox.bind fun b M => if b = true then (f E1 M).nox.bind fun x M => (compL vs g t f ds E M).bind fun xs M => .ok (x :: xs) M else compL vs g t f ds E M
@[simp] def aComp (vs : List Nat) (it : CA) (g : CG) (t : CT) (f : CE) : CA := fun E M => (it E M).bind fun ds M => compL vs g t f ds E M
@[simp] def cComp (vs : List Nat) (it : CA) (g : CG) (t : CT) (f : CE) : CE := fun E M => (aComp vs it g t f E M).bind fun ds M => .ok (.lst ds) M

/-! ### statements -/
/-- from an expression's end to a statement's -/
@[simp] def R.st (E : Env) (r : R D) (k : D → Mem → R (Fl × Env)) : R (Fl × Env) := match r with
  | .ok d M => k d M
  | .exc c ds M => .ok (.ex c ds, E) M
  | .bad => .bad
@[simp] def R.stB (E : Env) (r : R Bool) (k : Bool → Mem → R (Fl × Env)) : R (Fl × Env) := match r with
  | .ok d M => k d M
  | .exc c ds M => .ok (.ex c ds, E) M
  | .bad => .bad
@[simp] def R.stA (E : Env) (r : R (List D)) (k : List D → Mem → R (Fl × Env)) : R (Fl × Env) := match r with
  | .ok d M => k d M
  | .exc c ds M => .ok (.ex c ds, E) M
  | .bad => .bad
@[simp] def sSeq (s1 s2 : CS) : CS := fun E M => match s1 E M with
  | .ok (.nx, E) M => s2 E M
  | r => r
@[simp] def sNil : CS := fun E M => .ok (.nx, E) M
@[simp] def sAsg (g : CG) (f : CE) : CS := fun E M => (f E M).st E fun d M => match g d E with | some E => .ok (.nx, E) M | none => .bad
@[simp] def sExpr (f : CE) : CS := fun E M => (f E M).st E fun _ M => .ok (.nx, E) M
@[simp] def sRet (f : CE) : CS := fun E M => (f E M).st E fun d M => .ok (.rt d, E) M
@[simp] def sRetN : CS := fun E M => .ok (.rt .non, E) M
@[simp] def sIf (t : CT) (s1 s2 : CS) : CS := fun E M => (t E M).stB E fun b M => if b = true then s1 E M else s2 E M
@[simp] def sNever : CS := fun _ _ => .bad
@[simp] def sBreak : CS := fun E M => .ok (.bk, E) M
@[simp] def sCont : CS := fun E M => .ok (.ct, E) M
/-- a frame's own list is frozen -/
@[simp] def sFrz (i : Nat) : CS := fun E M => match E[i]? with
  | some (.ow c) => .ok (.nx, E.set i (.sh c.tree)) M
  | _ => .bad
def forL (g : CG) (s : CS) : List D → CS
  | [], E, M => .ok (.nx, E) M
  | d :: ds, E, M => match g d E with
    | none => .bad
    | some E => match s E M with
      | .ok (.nx, E) M => forL g s ds E M
      | .ok (.ct, E) M => forL g s ds E M
      | .ok (.bk, E) M => .ok (.nx, E) M
      | r => r
@[simp] def sFor (it : CA) (g : CG) (s : CS) : CS := fun E M => (it E M).stA E fun ds M => forL g s ds E M
def whileN (t : CT) (s : CS) : Nat → CS
  | 0, _, _ => .bad
  | n + 1, E, M => (t E M).stB E fun b M => if b = true then (match s E M with
      | .ok (.nx, E) M => whileN t s n E M
      | .ok (.ct, E) M => whileN t s n E M
      | .ok (.bk, E) M => .ok (.nx, E) M
      | r => r) else .ok (.nx, E) M

/-- a def's body as a function -/
@[simp] def body (n np : Nat) (s : CS) : Fn := fun ds M => if ds.length = np then (match s (ds.map Sl.sh ++ List.replicate (n - np) Sl.un) M with
  | .ok (.nx, _) M => .ok .non M
  | .ok (.rt d, _) M => .ok d M
  | .ok (.ex c ds, _) M => .exc c ds M
  | _ => .bad) else .bad
end J
namespace J
open PySem
mutual
def lowD (n : Nat) (d : D) : Bool := match d with
  | .loc l => decide (l < n)
  | .tup ds => lowDs n ds
  | .lst ds => lowDs n ds
  | .scr ds => lowDs n ds
  | .obj _ ds => lowDs n ds
  | .dK kvs => lowK n kvs
  | .dT kvs => lowT n kvs
  | _ => true
termination_by structural d
def lowDs (n : Nat) (ds : List D) : Bool := match ds with
  | [] => true
  | d :: ds => lowD n d && lowDs n ds
termination_by structural ds
def lowK (n : Nat) (ds : List (Key × D)) : Bool := match ds with
  | [] => true
  | p :: r => lowKP n p && lowK n r
termination_by structural ds
def lowKP (n : Nat) (p : Key × D) : Bool := match p with
  | (_, d) => lowD n d
termination_by structural p
def lowT (n : Nat) (ds : List (List Key × D)) : Bool := match ds with
  | [] => true
  | p :: r => lowTP n p && lowT n r
termination_by structural ds
def lowTP (n : Nat) (p : List Key × D) : Bool := match p with
  | (_, d) => lowD n d
termination_by structural p
end
mutual
def sameD (a b : D) : Bool := match a with
  | .non => match b with | .non => true | _ => false
  | .bl a => match b with | .bl b => a == b | _ => false
  | .int a => match b with | .int b => a == b | _ => false
  | .str a => match b with | .str b => decide (a = b) | _ => false
  | .tup a => match b with | .tup b => sameDs a b | _ => false
  | .lst a => match b with | .lst b => sameDs a b | _ => false
  | .scr a => match b with | .scr b => sameDs a b | _ => false
  | .dK a => match b with | .dK b => sameK a b | _ => false
  | .dT a => match b with | .dT b => sameT a b | _ => false
  | .obj c a => match b with | .obj d b => c == d && sameDs a b | _ => false
  | .loc a => match b with | .loc b => a == b | _ => false
  | .fn a => match b with | .fn b => decide (a = b) | _ => false
  | .ty a => match b with | .ty b => decide (a = b) | _ => false
termination_by structural a
def sameDs (a b : List D) : Bool := match a with
  | [] => match b with | [] => true | _ => false
  | a :: as => match b with | b :: bs => sameD a b && sameDs as bs | _ => false
termination_by structural a
def sameK (a b : List (Key × D)) : Bool := match a with
  | [] => match b with | [] => true | _ => false
  | a :: as => match b with | b :: bs => sameKP a b && sameK as bs | _ => false
termination_by structural a
def sameKP (a b : Key × D) : Bool := match a with
  | (k, a) => decide (k = b.1) && sameD a b.2
termination_by structural a
def sameT (a b : List (List Key × D)) : Bool := match a with
  | [] => match b with | [] => true | _ => false
  | a :: as => match b with | b :: bs => sameTP a b && sameT as bs | _ => false
termination_by structural a
def sameTP (a b : List Key × D) : Bool := match a with
  | (k, a) => decide (k = b.1) && sameD a b.2
termination_by structural a
end
mutual
theorem sameD_eq (a b : D) (h : sameD a b = true) : a = b := by
  cases a <;> cases b <;> first | rfl | (exact absurd h (by intro q; cases q)) | skip
  all_goals first | (rename_i x y; have h : (x == y) = true := h; rw [eq_of_beq h]; done) | (rename_i x y; have h : decide (x = y) = true := h; rw [of_decide_eq_true h]; done) | skip
  · rename_i x y; rw [sameDs_eq x y h]
  · rename_i x y; rw [sameDs_eq x y h]
  · rename_i x y; rw [sameK_eq x y h]
  · rename_i x y; rw [sameT_eq x y h]
  · rename_i c x d y
    have h : (c == d && sameDs x y) = true := h
    rw [Bool.and_eq_true] at h
    rw [eq_of_beq h.1, sameDs_eq x y h.2]
  · rename_i x y; rw [sameDs_eq x y h]
termination_by structural a
theorem sameDs_eq (a b : List D) (h : sameDs a b = true) : a = b := by
  cases a <;> cases b <;> first | rfl | (exact absurd h (by intro q; cases q)) | skip
  rename_i a as b bs
  have h : (sameD a b && sameDs as bs) = true := h
  rw [Bool.and_eq_true] at h
  rw [sameD_eq a b h.1, sameDs_eq as bs h.2]
termination_by structural a
theorem sameK_eq (a b : List (Key × D)) (h : sameK a b = true) : a = b := by
  cases a <;> cases b <;> first | rfl | (exact absurd h (by intro q; cases q)) | skip
  rename_i a as b bs
  have h : (sameKP a b && sameK as bs) = true := h
  rw [Bool.and_eq_true] at h
  rw [sameKP_eq a b h.1, sameK_eq as bs h.2]
termination_by structural a
theorem sameKP_eq (a b : Key × D) (h : sameKP a b = true) : a = b := by
  obtain ⟨k, a⟩ := a
  obtain ⟨l, b⟩ := b
  have h : (decide (k = l) && sameD a b) = true := h
  rw [Bool.and_eq_true] at h
  rw [of_decide_eq_true h.1, sameD_eq a b h.2]
termination_by structural a
theorem sameT_eq (a b : List (List Key × D)) (h : sameT a b = true) : a = b := by
  cases a <;> cases b <;> first | rfl | (exact absurd h (by intro q; cases q)) | skip
  rename_i a as b bs
  have h : (sameTP a b && sameT as bs) = true := h
  rw [Bool.and_eq_true] at h
  rw [sameTP_eq a b h.1, sameT_eq as bs h.2]
termination_by structural a
theorem sameTP_eq (a b : List Key × D) (h : sameTP a b = true) : a = b := by
  obtain ⟨k, a⟩ := a
  obtain ⟨l, b⟩ := b
  have h : (decide (k = l) && sameD a b) = true := h
  rw [Bool.and_eq_true] at h
  rw [of_decide_eq_true h.1, sameD_eq a b h.2]
termination_by structural a
end
mutual
theorem sameD_refl (a : D) : sameD a a = true := by
  cases a with
  | non => rfl
  | bl a => exact beq_self_eq_true a
  | int a => exact beq_self_eq_true a
  | str a => exact decide_eq_true rfl
  | tup a => exact sameDs_refl a
  | lst a => exact sameDs_refl a
  | scr a => exact sameDs_refl a
  | dK a => exact sameK_refl a
  | dT a => exact sameT_refl a
  | obj c a => show (c == c && sameDs a a) = true; rw [beq_self_eq_true, sameDs_refl a]; rfl
  | loc a => exact beq_self_eq_true a
  | fn a => exact decide_eq_true rfl
  | ty a => exact decide_eq_true rfl
termination_by structural a
theorem sameDs_refl (a : List D) : sameDs a a = true := by
  cases a with
  | nil => rfl
  | cons a as => show (sameD a a && sameDs as as) = true; rw [sameD_refl a, sameDs_refl as]; rfl
termination_by structural a
theorem sameK_refl (a : List (Key × D)) : sameK a a = true := by
  cases a with
  | nil => rfl
  | cons a as => show (sameKP a a && sameK as as) = true; rw [sameKP_refl a, sameK_refl as]; rfl
termination_by structural a
theorem sameKP_refl (a : Key × D) : sameKP a a = true := by
  obtain ⟨k, a⟩ := a
  show (decide (k = k) && sameD a a) = true
  rw [sameD_refl a, decide_eq_true rfl]; rfl
termination_by structural a
theorem sameT_refl (a : List (List Key × D)) : sameT a a = true := by
  cases a with
  | nil => rfl
  | cons a as => show (sameTP a a && sameT as as) = true; rw [sameTP_refl a, sameT_refl as]; rfl
termination_by structural a
theorem sameTP_refl (a : List Key × D) : sameTP a a = true := by
  obtain ⟨k, a⟩ := a
  show (decide (k = k) && sameD a a) = true
  rw [sameD_refl a, decide_eq_true rfl]; rfl
termination_by structural a
end
def lowC (n : Nat) (c : Cell) : Bool := lowD n c.tree
/-- cells that a call must leave fit: as they were, or low -/
def okM (n : Nat) : Mem → Mem → Bool
  | c :: M, c' :: M' => (sameD c.tree c'.tree || lowC n c') && okM n M M'
  | [], [] => true
  | _, _ => false
theorem okM_refl (n : Nat) : ∀ M : Mem, okM n M M = true
  | [] => rfl
  | c :: M => by
    show ((sameD c.tree c.tree || lowC n c) && okM n M M) = true
    rw [sameD_refl, okM_refl n M]; rfl
/-- the cells that are new within are forgotten -/
def scp (F : Fn) : Fn := fun ds M => match F ds M with
  | .ok d M' => if (lowD M.length d && okM M.length M (M'.take M.length)) = true then .ok d (M'.take M.length) else .bad
  | .exc c es M' => if (lowDs M.length es && okM M.length M (M'.take M.length)) = true then .exc c es (M'.take M.length) else .bad
  | .bad => .bad

end J
namespace J
open PySem PySem.Spec L2

/-- the ghost: cells' addresses, what is frozen -/
structure Wd where
  phi : List Addr
  Z : Addr → Prop

def isDict : HO → Bool
  | .dK _ => true
  | .dT _ => true
  | _ => false

/-- the module: its written part, its names, its classes' names with their fields in order -/
structure Gm where
  K : PySem.W.Frag
  mg : Str → Option Value
  ct : List (Str × List Str)
section
variable (G : Gm)

def KList (a : Addr) (xs : List V) : Prop :=
    ∃ (o : Obj) (its : Array Value) (n : Nat), G.K.lookup a = some o ∧ o.cls = .type "list" ∧ o.dict = none ∧ o.data = .seq its n ∧ its.size ≤ sizeLine ∧ Vals xs its.toList

mutual
inductive Rep (W : Wd) (H : Hp) : D → V → Prop
  | non : Rep W H .non .non
  | bl (b : Bool) : Rep W H (.bl b) (.bl b)
  | int (i : Int) : Rep W H (.int i) (.int i)
  | str (x : Str) : Rep W H (.str x) (.str x)
  | tup {a : Addr} {vs : List V} {ds : List D} (h : H a = some (.tup vs)) (r : Reps W H ds vs) : Rep W H (.tup ds) (.ref a)
  | lst {a : Addr} {vs : List V} {ds : List D} (z : W.Z a) (h : H a = some (.lst vs)) (r : Reps W H ds vs) : Rep W H (.lst ds) (.ref a)
  | scr {a : Addr} {vs : List V} {ds : List D} (h : (∃ o, H a = some (.frz o (.lst vs))) ∨ KList G a vs) (r : Reps W H ds vs) : Rep W H (.scr ds) (.ref a)
  | dK {a : Addr} {vs : List (Key × V)} {ds : List (Key × D)} (z : W.Z a) (h : Rd H a (.dK vs)) (k : vs.map (·.1) = ds.map (·.1)) (r : Reps W H (ds.map (·.2)) (vs.map (·.2))) : Rep W H (.dK ds) (.ref a)
  | dT {a : Addr} {vs : List (List Key × V)} {ds : List (List Key × D)} (z : W.Z a) (h : Rd H a (.dT vs)) (k : vs.map (·.1) = ds.map (·.1)) (r : Reps W H (ds.map (·.2)) (vs.map (·.2))) : Rep W H (.dT ds) (.ref a)
  | obj {a C dx : Addr} {c : Nat} {nm : Str} {ns : List Str} {vs : List (Str × V)} {ds : List D} (z : W.Z a) (ht : G.ct[c]? = some (nm, ns)) (hc : G.mg nm = some (.ref C)) (h : H a = some (.ins C dx vs)) (k : vs.map (·.1) = ns.take ds.length) (r : Reps W H ds (vs.map (·.2))) : Rep W H (.obj c ds) (.ref a)
  | loc {a : Addr} {l : Nat} (h : W.phi[l]? = some a) : Rep W H (.loc l) (.ref a)
  | fn {a : Addr} {x : Str} (h : G.mg x = some (.ref a)) : Rep W H (.fn x) (.ref a)
  | ty (n : String) : Rep W H (.ty n) (.ty n)
inductive Reps (W : Wd) (H : Hp) : List D → List V → Prop
  | nil : Reps W H [] []
  | cons {d : D} {ds : List D} {v : V} {vs : List V} (h : Rep W H d v) (t : Reps W H ds vs) : Reps W H (d :: ds) (v :: vs)
end

/-- what stands at a cell's address -/
def CellOk (W : Wd) (H : Hp) (a : Addr) : Cell → Prop
  | .lst ds => ∃ vs, H a = some (.lst vs) ∧ Reps G W H ds vs
  | .dK ds => ∃ vs : List (Key × V), H a = some (.dK vs) ∧ vs.map (·.1) = ds.map (·.1) ∧ Reps G W H (ds.map (·.2)) (vs.map (·.2))
  | .dT ds => ∃ vs : List (List Key × V), H a = some (.dT vs) ∧ vs.map (·.1) = ds.map (·.1) ∧ Reps G W H (ds.map (·.2)) (vs.map (·.2))
  | .ins c ds => ∃ nm ns C dx, ∃ vs : List (Str × V), G.ct[c]? = some (nm, ns) ∧ G.mg nm = some (.ref C) ∧ H a = some (.ins C dx vs) ∧ vs.map (·.1) = ns.take ds.length ∧ Reps G W H ds (vs.map (·.2))

/-- values persist -/
structure ExtV (W : Wd) (H : Hp) (W' : Wd) (H' : Hp) : Prop where
  ph : ∃ more, W'.phi = W.phi ++ more
  z : ∀ a, W.Z a → W'.Z a
  rd : ∀ a u, W.Z a → isDict u = true → Rd H a u → Rd H' a u
  ls : ∀ a vs, W.Z a → H a = some (.lst vs) → H' a = some (.lst vs)
  fz : ∀ a o vs, H a = some (.frz o (.lst vs)) → H' a = some (.frz o (.lst vs))
  tp : ∀ a xs, H a = some (.tup xs) → H' a = some (.tup xs)
  ob : ∀ a C dx fs, W.Z a → H a = some (.ins C dx fs) → H' a = some (.ins C dx fs)
/-- .. and what is locked stays so -/
structure Ext0 (W : Wd) (H : Hp) (W' : Wd) (H' : Hp) : Prop extends ExtV W H W' H' where
  fd : ∀ a o u, H a = some (.frz o u) → H' a = some (.frz o u)
/-- .. and nothing that is another's is touched -/
structure Ext (W : Wd) (H : Hp) (W' : Wd) (H' : Hp) : Prop extends Ext0 W H W' H' where
  fr : ∀ a, a ∈ W'.phi → a ∈ W.phi ∨ H a = none
  zn : ∀ a, W'.Z a → W.Z a ∨ H a = none
  keep : ∀ a o, H a = some o → a ∉ W.phi → ¬ W.Z a → H' a = some o

/-- the cells stand -/
structure CRel (W : Wd) (H : Hp) (M : Mem) : Prop where
  len : W.phi.length = M.length
  cel : ∀ (l : Nat) c a, M[l]? = some c → W.phi[l]? = some a → CellOk G W H a c
  nd : W.phi.Nodup
  sep : ∀ a ∈ W.phi, ¬ W.Z a
  zs : ∀ a, W.Z a → ∃ o, H a = some o

def SlOk (W : Wd) (H H0 : Hp) (σ : L2.St) (i : Nat) : Sl → Prop
  | .un => True
  | .sh d => ∃ v, σ[i]? = some (some v) ∧ Rep G W H d v
  | .ow c => ∃ a, σ[i]? = some (some (.ref a)) ∧ CellOk G W H a c ∧ a ∉ W.phi ∧ ¬ W.Z a ∧ H0 a = none

structure Rel (W0 : Wd) (H0 : Hp) (W : Wd) (σ : L2.St) (H : Hp) (E : Env) (M : Mem) : Prop extends CRel G W H M where
  ext : Ext W0 H0 W H
  slt : ∀ (i : Nat) s, E[i]? = some s → SlOk G W H H0 σ i s
  sz : E.length = σ.length
  own : ∀ (i j : Nat) c c' a, E[i]? = some (.ow c) → E[j]? = some (.ow c') → σ[i]? = some (some (.ref a)) → σ[j]? = some (some (.ref a)) → i = j
end

section
variable {G : Gm} {W W' W0 W1 : Wd} {H H' H0 H1 : Hp} {σ : L2.St} {E : Env} {M M' : Mem}

theorem Reps.length : ∀ {ds : List D} {vs : List V}, Reps G W H ds vs → ds.length = vs.length
  | _, _, .nil => rfl
  | _, _, .cons _ t => by rw [List.length_cons, List.length_cons, Reps.length t]
theorem Reps.append : ∀ {ds es : List D} {vs us : List V}, Reps G W H ds vs → Reps G W H es us → Reps G W H (ds ++ es) (vs ++ us)
  | _, _, _, _, .nil, r => r
  | _, _, _, _, .cons h t, r => .cons h (Reps.append t r)
theorem Reps.get : ∀ {ds : List D} {vs : List V} {i : Nat} {d : D}, Reps G W H ds vs → ds[i]? = some d → ∃ v, vs[i]? = some v ∧ Rep G W H d v
  | _, _, _, _, .nil, e => by simp at e
  | _, _, 0, _, .cons h t, e => by simp at e; subst e; exact ⟨_, by simp, h⟩
  | _, _, i + 1, _, .cons h t, e => by
    obtain ⟨v, h1, h2⟩ := Reps.get (i := i) t (by simpa using e)
    exact ⟨v, by simpa using h1, h2⟩
theorem Reps.getV : ∀ {ds : List D} {vs : List V} {i : Nat} {v : V}, Reps G W H ds vs → vs[i]? = some v → ∃ d, ds[i]? = some d ∧ Rep G W H d v
  | _, _, _, _, .nil, e => by simp at e
  | _, _, 0, _, .cons h t, e => by simp at e; subst e; exact ⟨_, by simp, h⟩
  | _, _, i + 1, _, .cons h t, e => by
    obtain ⟨v, h1, h2⟩ := Reps.getV (i := i) t (by simpa using e)
    exact ⟨v, by simpa using h1, h2⟩
theorem Reps.take : ∀ {ds : List D} {vs : List V} (n : Nat), Reps G W H ds vs → Reps G W H (ds.take n) (vs.take n)
  | _, _, 0, _ => by simp; exact .nil
  | _, _, n + 1, .nil => .nil
  | _, _, n + 1, .cons h t => .cons h (Reps.take n t)
theorem Reps.drop : ∀ {ds : List D} {vs : List V} (n : Nat), Reps G W H ds vs → Reps G W H (ds.drop n) (vs.drop n)
  | _, _, 0, r => r
  | _, _, n + 1, .nil => .nil
  | _, _, n + 1, .cons h t => Reps.drop n t
theorem Reps.set {d : D} {v : V} (r : Rep G W H d v) : ∀ {ds : List D} {vs : List V} (i : Nat), Reps G W H ds vs → Reps G W H (ds.set i d) (vs.set i v)
  | _, _, _, .nil => .nil
  | _, _, 0, .cons _ t => .cons r t
  | _, _, i + 1, .cons h t => .cons h (Reps.set r i t)
theorem Reps.one {d : D} {v : V} (r : Rep G W H d v) : Reps G W H [d] [v] := .cons r .nil

mutual
theorem Rep.monoV (x : ExtV W H W' H') : ∀ {d : D} {v : V}, Rep G W H d v → Rep G W' H' d v
  | _, _, .non => .non
  | _, _, .bl b => .bl b
  | _, _, .int i => .int i
  | _, _, .str s => .str s
  | _, _, .tup h r => .tup (x.tp _ _ h) (Reps.monoV x r)
  | _, _, .lst z h r => .lst (x.z _ z) (x.ls _ _ z h) (Reps.monoV x r)
  | _, _, .scr h r => .scr (h.imp (fun ⟨o, q⟩ => ⟨o, x.fz _ _ _ q⟩) id) (Reps.monoV x r)
  | _, _, .dK z h k r => .dK (x.z _ z) (x.rd _ _ z rfl h) k (Reps.monoV x r)
  | _, _, .dT z h k r => .dT (x.z _ z) (x.rd _ _ z rfl h) k (Reps.monoV x r)
  | _, _, .obj z t c h k r => .obj (x.z _ z) t c (x.ob _ _ _ _ z h) k (Reps.monoV x r)
  | _, _, .loc h => .loc (by obtain ⟨more, e⟩ := x.ph; rw [e, List.getElem?_append_left (List.getElem?_eq_some_iff.mp h).1]; exact h)
  | _, _, .fn h => .fn h
  | _, _, .ty n => .ty n
theorem Reps.monoV (x : ExtV W H W' H') : ∀ {ds : List D} {vs : List V}, Reps G W H ds vs → Reps G W' H' ds vs
  | _, _, .nil => .nil
  | _, _, .cons h t => .cons (Rep.monoV x h) (Reps.monoV x t)
end
theorem Rep.mono {d : D} {v : V} (x : Ext0 W H W' H') (h : Rep G W H d v) : Rep G W' H' d v := h.monoV x.toExtV
theorem Reps.mono {ds : List D} {vs : List V} (x : Ext0 W H W' H') (h : Reps G W H ds vs) : Reps G W' H' ds vs := h.monoV x.toExtV

theorem Ext0.refl : Ext0 W H W H := ⟨⟨⟨[], by simp⟩, fun _ z => z, fun _ _ _ _ h => h, fun _ _ _ h => h, fun _ _ _ h => h, fun _ _ h => h, fun _ _ _ _ _ h => h⟩, fun _ _ _ h => h⟩
theorem Ext0.trans (a : Ext0 W H W1 H1) (b : Ext0 W1 H1 W' H') : Ext0 W H W' H' := by
  obtain ⟨m1, e1⟩ := a.ph
  obtain ⟨m2, e2⟩ := b.ph
  exact ⟨⟨⟨m1 ++ m2, by rw [e2, e1, List.append_assoc]⟩, fun p z => b.z p (a.z p z), fun p u z f r => b.rd p u (a.z p z) f (a.rd p u z f r), fun p vs z h => b.ls p vs (a.z p z) (a.ls p vs z h), fun p o vs h => b.fz p o vs (a.fz p o vs h), fun p xs h => b.tp p xs (a.tp p xs h), fun p C dx fs z h => b.ob p C dx fs (a.z p z) (a.ob p C dx fs z h)⟩, fun p o u h => b.fd p o u (a.fd p o u h)⟩
theorem Ext.refl : Ext W H W H := ⟨Ext0.refl, fun _ h => .inl h, fun _ h => .inl h, fun _ _ h _ _ => h⟩

theorem CellOk.isS {a : Addr} {c : Cell} (h : CellOk G W H a c) : ∃ o, H a = some o := by
  cases c with
  | lst ds => obtain ⟨vs, e, _⟩ := h; exact ⟨_, e⟩
  | dK ds => obtain ⟨vs, e, _⟩ := h; exact ⟨_, e⟩
  | dT ds => obtain ⟨vs, e, _⟩ := h; exact ⟨_, e⟩
  | ins c ds => obtain ⟨nm, ns, C, dx, vs, _, _, e, _⟩ := h; exact ⟨_, e⟩
theorem CellOk.notup {a : Addr} {c : Cell} (h : CellOk G W H a c) (xs : List V) : H a ≠ some (.tup xs) := by
  intro q
  cases c with
  | lst ds => obtain ⟨vs, e, _⟩ := h; rw [e] at q; cases q
  | dK ds => obtain ⟨vs, e, _⟩ := h; rw [e] at q; cases q
  | dT ds => obtain ⟨vs, e, _⟩ := h; rw [e] at q; cases q
  | ins c ds => obtain ⟨nm, ns, C, dx, vs, _, _, e, _⟩ := h; rw [e] at q; cases q
theorem CellOk.monoV {a : Addr} {c : Cell} (x : ExtV W H W' H') (e : ∀ o, H a = some o → H' a = some o) (h : CellOk G W H a c) : CellOk G W' H' a c := by
  cases c with
  | lst ds => obtain ⟨vs, q, r⟩ := h; exact ⟨vs, e _ q, r.monoV x⟩
  | dK ds => obtain ⟨vs, q, k, r⟩ := h; exact ⟨vs, e _ q, k, r.monoV x⟩
  | dT ds => obtain ⟨vs, q, k, r⟩ := h; exact ⟨vs, e _ q, k, r.monoV x⟩
  | ins c ds => obtain ⟨nm, ns, C, dx, vs, ht, hc, q, k, r⟩ := h; exact ⟨nm, ns, C, dx, vs, ht, hc, e _ q, k, r.monoV x⟩
theorem CellOk.mono {a : Addr} {c : Cell} (x : Ext0 W H W' H') (e : ∀ o, H a = some o → H' a = some o) (h : CellOk G W H a c) : CellOk G W' H' a c := h.monoV x.toExtV e

/-- a cell's address is tracked -/
theorem CRel.isS (c : CRel G W H M) {a : Addr} (h : a ∈ W.phi) : ∃ o, H a = some o := by
  obtain ⟨l, hl, e⟩ := List.getElem_of_mem h
  have hl' : l < M.length := by rw [← c.len]; exact hl
  exact (c.cel l M[l] a (List.getElem?_eq_getElem hl') (by rw [List.getElem?_eq_getElem hl, e])).isS
theorem CRel.notup (c : CRel G W H M) {a : Addr} {xs : List V} (h : H a = some (.tup xs)) : a ∉ W.phi := fun hm => by
  obtain ⟨l, hl, e⟩ := List.getElem_of_mem hm
  have hl' : l < M.length := by rw [← c.len]; exact hl
  exact (c.cel l M[l] a (List.getElem?_eq_getElem hl') (by rw [List.getElem?_eq_getElem hl, e])).notup xs h
/-- what is new now was new then -/
theorem CRel.was (c : CRel G W H M) (x : Ext W0 H0 W H) {p : Addr} (h : H p = none) : H0 p = none := by
  cases q : H0 p with
  | none => rfl
  | some o =>
    exfalso
    by_cases h1 : p ∈ W0.phi
    · obtain ⟨more, e⟩ := x.ph
      obtain ⟨o', q'⟩ := c.isS (a := p) (by rw [e]; exact List.mem_append_left _ h1)
      rw [h] at q'; cases q'
    · by_cases h2 : W0.Z p
      · obtain ⟨o', q'⟩ := c.zs p (x.z p h2)
        rw [h] at q'; cases q'
      · rw [x.keep p o q h1 h2] at h; cases h
theorem Ext.trans (c : CRel G W1 H1 M) (a : Ext W H W1 H1) (b : Ext W1 H1 W' H') : Ext W H W' H' := by
  refine ⟨a.toExt0.trans b.toExt0, fun p hp => ?_, fun p hp => ?_, fun p o h1 h2 h3 => ?_⟩
  · rcases b.fr p hp with q | q
    · exact a.fr p q
    · exact .inr (c.was a q)
  · rcases b.zn p hp with q | q
    · exact a.zn p q
    · exact .inr (c.was a q)
  · refine b.keep p o (a.keep p o h1 h2 h3) (fun q => ?_) (fun q => ?_)
    · rcases a.fr p q with z | z
      · exact h2 z
      · rw [h1] at z; cases z
    · rcases a.zn p q with z | z
      · exact h3 z
      · rw [h1] at z; cases z

/-- behind an expression or a call: the slots stand -/
theorem Rel.after (r : Rel G W0 H0 W σ H E M) (x : Ext W H W' H') (c : CRel G W' H' M') : Rel G W0 H0 W' σ H' E M' := by
  refine ⟨c, Ext.trans r.toCRel r.ext x, fun i s hs => ?_, r.sz, r.own⟩
  have q := r.slt i s hs
  cases s with
  | un => exact True.intro
  | sh d => obtain ⟨v, e, h⟩ := q; exact ⟨v, e, h.mono x.toExt0⟩
  | ow c =>
    obtain ⟨a, e, h, n1, n2, n3⟩ := q
    obtain ⟨o, ho⟩ := h.isS
    refine ⟨a, e, h.mono x.toExt0 fun o' ho' => x.keep a o' ho' n1 n2, fun z => ?_, fun z => ?_, n3⟩
    · rcases x.fr a z with z | z
      · exact n1 z
      · rw [ho] at z; cases z
    · rcases x.zn a z with z | z
      · exact n2 z
      · rw [ho] at z; cases z
end
end J
namespace J
open PySem PySem.Spec L2

/-- objects are no longer than lists may be -/
def LenOk (H : Hp) : Prop := (∀ a vs, Rd H a (.lst vs) → vs.length ≤ sizeLine) ∧ (∀ a vs, H a = some (.tup vs) → vs.length ≤ sizeLine)
theorem lenOk_of {X : Cx} {pins : List (Addr × Obj)} {σ : L2.St} {H : Hp} {s : Shared} (I : L2.Inv X pins σ H s) : LenOk H := by
  refine ⟨fun a vs h => ?_, fun a vs h => ?_⟩
  · rcases h with h | ⟨o, h⟩
    · obtain ⟨z, _⟩ := (show ObjOk X.prog X.w H s.heap a (.lst vs) from I.hok a _ h); exact z
    · obtain ⟨_, z, _⟩ := (show ObjOk X.prog X.w H s.heap a (.frz o (.lst vs)) from I.hok a _ h); exact z
  · obtain ⟨z, _⟩ := (show ObjOk X.prog X.w H s.heap a (.tup vs) from I.hok a _ h); exact z

abbrev Gx (X : Cx) (ct : List (Str × List Str)) : Gm := ⟨X.K, X.mg, ct⟩

/-- an exception as it lies: its class, its own dict -/
def ExcOk (G : Gm) (W : Wd) (H : Hp) (c : Nat) (ds : List D) (C : Addr) (o : Option Addr) : Prop :=
  ∃ nm ns, G.ct[c]? = some (nm, ns) ∧ G.mg nm = some (.ref C) ∧ ((ds = [] ∧ ns = [] ∧ o = none) ∨ ∃ dx, ∃ vs : List (Str × V), o = some dx ∧ H dx = some (.xd vs) ∧ vs.map (·.1) = ns ∧ Reps G W H ds (vs.map (·.2)))

section
variable (G : Gm) (Wx : WX)

def Post {α β : Type} (Rp : Wd → Hp → α → β → Prop) (W0 : Wd) (H0 : Hp) (W : Wd) (H : Hp) (σ : L2.St) (E : Env) (r : R α) (Q : β → Hp → Prop) : Prop :=
  match r with
  | .ok d M' => ∀ W' H' v, Ext W H W' H' → Rel G W0 H0 W' σ H' E M' → Rp W' H' d v → LenOk H' → Q v H'
  | .exc c ds M' => ∀ W' H' C o, Ext W H W' H' → Rel G W0 H0 W' σ H' E M' → ExcOk G W' H' c ds C o → LenOk H' → Wx (.ref C) o σ H'
  | .bad => False

abbrev RpB : Wd → Hp → Bool → Bool → Prop := fun _ _ b c => b = c
def tF (f : CE) : TE := fun σ H Q => ∃ W0 H0 W E M, Rel G W0 H0 W σ H E M ∧ Post G Wx (fun W' H' => Rep G W' H') W0 H0 W H σ E (f E M) Q
def tT (f : CT) : TT := fun σ H Q => ∃ W0 H0 W E M, Rel G W0 H0 W σ H E M ∧ Post G Wx RpB W0 H0 W H σ E (f E M) Q
def tA (f : CA) : TA := fun σ H Q => ∃ W0 H0 W E M, Rel G W0 H0 W σ H E M ∧ Post G Wx (fun W' H' => Reps G W' H') W0 H0 W H σ E (f E M) Q
end

section
variable {G : Gm} {Wx : WX} {W0 W W1 : Wd} {H0 H H1 : Hp} {σ : L2.St} {E : Env} {M M1 : Mem} {α β γ δ : Type} {Rp : Wd → Hp → α → β → Prop} {Rq : Wd → Hp → γ → δ → Prop}

theorem Post.step {r : R α} {Q : β → Hp → Prop} (rel : Rel G W0 H0 W1 σ H1 E M1) (x : Ext W H W1 H1) (h : Post G Wx Rp W0 H0 W H σ E r Q) : Post G Wx Rp W0 H0 W1 H1 σ E r Q := by
  cases r with
  | ok d M' => exact fun W' H' v x' r' p' l' => h W' H' v (Ext.trans rel.toCRel x x') r' p' l'
  | exc c ds M' => exact fun W' H' C o x' r' p' => h W' H' C o (Ext.trans rel.toCRel x x') r' p'
  | bad => exact h

/-- one part first -/
theorem Post.bind {r : R γ} {k : γ → Mem → R α} {Q : β → Hp → Prop} {Q' : δ → Hp → Prop} (h : Post G Wx Rp W0 H0 W H σ E (r.bind k) Q)
    (hk : ∀ d M1 W1 H1 v, r = .ok d M1 → Ext W H W1 H1 → Rel G W0 H0 W1 σ H1 E M1 → Rq W1 H1 d v → LenOk H1 → Post G Wx Rp W0 H0 W1 H1 σ E (k d M1) Q → Q' v H1) : Post G Wx Rq W0 H0 W H σ E r Q' := by
  cases r with
  | ok d M1 => exact fun W' H' v x r p l => hk d M1 W' H' v rfl x r p l (Post.step r x h)
  | exc c ds M1 => exact h
  | bad => exact h
/-- the end -/
theorem Post.end {d : α} {v : β} {Q : β → Hp → Prop} (h : Post G Wx Rp W0 H0 W H σ E (.ok d M1) Q) (x : Ext W H W1 H1) (r : Rel G W0 H0 W1 σ H1 E M1) (p : Rp W1 H1 d v) (l : LenOk H1) : Q v H1 := h W1 H1 v x r p l

theorem Ext.new {p : Addr} {o : HO} (c : CRel G W H M) (hp : H p = none) : Ext W H W (upd H p o) := by
  have ne : ∀ a u, H a = some u → a ≠ p := fun a u h q => by rw [q, hp] at h; cases h
  refine ⟨⟨⟨⟨[], by simp⟩, fun _ z => z, fun a u z f h => ?_, fun a vs z h => by rw [upd_ne (ne _ _ h)]; exact h, fun a o vs h => by rw [upd_ne (ne _ _ h)]; exact h, fun a xs h => by rw [upd_ne (ne _ _ h)]; exact h, fun a C dx fs z h => by rw [upd_ne (ne _ _ h)]; exact h⟩, fun a o u h => by rw [upd_ne (ne _ _ h)]; exact h⟩, fun _ h => .inl h, fun _ h => .inl h, fun a o' h _ _ => by rw [upd_ne (ne _ _ h)]; exact h⟩
  rcases h with h | ⟨ob, h⟩
  · exact .inl (by rw [upd_ne (ne _ _ h)]; exact h)
  · exact .inr ⟨ob, by rw [upd_ne (ne _ _ h)]; exact h⟩
/-- a new object, frozen at once -/
abbrev Wd.frz (W : Wd) (p : Addr) : Wd := ⟨W.phi, fun a => W.Z a ∨ a = p⟩
theorem Ext.newZ {p : Addr} {o : HO} (c : CRel G W H M) (hp : H p = none) : Ext W H (W.frz p) (upd H p o) := by
  have x := Ext.new (o := o) c hp
  refine ⟨⟨⟨⟨[], by simp⟩, fun _ z => .inl z, x.rd, x.ls, x.fz, x.tp, x.ob⟩, x.fd⟩, fun _ h => .inl h, fun a h => ?_, x.keep⟩
  rcases h with h | h
  · exact .inl h
  · subst h; exact .inr hp
theorem CRel.ext (c : CRel G W H M) (x : Ext W H W1 H1) (hph : W1.phi = W.phi) (hz : ∀ a, W1.Z a → ∃ o, H1 a = some o) (e : ∀ a ∈ W.phi, H1 a = H a) : CRel G W1 H1 M := by
  refine ⟨by rw [hph]; exact c.len, fun l cl a h1 h2 => ?_, by rw [hph]; exact c.nd, fun a h z => ?_, hz⟩
  · rw [hph] at h2
    have hm : a ∈ W.phi := List.mem_of_getElem? h2
    exact (c.cel l cl a h1 h2).mono x.toExt0 fun o ho => by rw [e a hm]; exact ho
  · rw [hph] at h
    rcases x.zn a z with q | q
    · exact c.sep a h q
    · obtain ⟨o, ho⟩ := c.isS h
      rw [q] at ho; cases ho
theorem CRel.new {p : Addr} {o : HO} (c : CRel G W H M) (hp : H p = none) : CRel G W (upd H p o) M := by
  refine c.ext (Ext.new c hp) rfl (fun a z => ?_) fun a h => ?_
  · obtain ⟨u, hu⟩ := c.zs a z
    exact ⟨u, by rw [upd_ne (fun q => by rw [q, hp] at hu; cases hu)]; exact hu⟩
  · obtain ⟨u, hu⟩ := c.isS h
    exact upd_ne (fun q => by rw [q, hp] at hu; cases hu)
theorem CRel.newZ {p : Addr} {o : HO} (c : CRel G W H M) (hp : H p = none) : CRel G (W.frz p) (upd H p o) M := by
  refine c.ext (Ext.newZ c hp) rfl (fun a z => ?_) fun a h => ?_
  · rcases z with z | z
    · obtain ⟨u, hu⟩ := c.zs a z
      exact ⟨u, by rw [upd_ne (fun q => by rw [q, hp] at hu; cases hu)]; exact hu⟩
    · subst z; exact ⟨_, upd_same⟩
  · obtain ⟨u, hu⟩ := c.isS h
    exact upd_ne (fun q => by rw [q, hp] at hu; cases hu)
theorem LenOk.new {p : Addr} {o : HO} (l : LenOk H) (hp : H p = none) (h1 : ∀ vs, o = .lst vs → vs.length ≤ sizeLine) (h2 : ∀ vs, o = .tup vs → vs.length ≤ sizeLine) (h3 : ∀ ob u, o ≠ .frz ob u) : LenOk (upd H p o) := by
  refine ⟨fun a vs h => ?_, fun a vs h => ?_⟩
  · by_cases q : a = p
    · subst q
      rcases h with h | ⟨ob, h⟩
      · rw [upd_same] at h; exact h1 _ (Option.some.inj h)
      · rw [upd_same] at h; exact (h3 _ _ (Option.some.inj h)).elim
    · refine l.1 a vs ?_
      rcases h with h | ⟨ob, h⟩
      · exact .inl (by rw [upd_ne q] at h; exact h)
      · exact .inr ⟨ob, by rw [upd_ne q] at h; exact h⟩
  · by_cases q : a = p
    · subst q
      rw [upd_same] at h; exact h2 _ (Option.some.inj h)
    · rw [upd_ne q] at h; exact l.2 a vs h
end

/-! ### judgements -/
theorem PE.fin {X : Cx} {e : Expr} {t t' : TE} (h : PE X e t) (hw : ∀ σ H Q, LenOk H → t' σ H Q → t σ H (fun v H' => LenOk H' → Q v H')) : PE X e t' :=
  ⟨fun pins s σ H Q I q => thn (h.run pins s σ H _ I (hw σ H Q (lenOk_of I) q)) fun _ _ ⟨v, H', I', r, q'⟩ => ⟨v, H', I', r, q' (lenOk_of I')⟩⟩
theorem PT.fin {X : Cx} {e : Expr} {t t' : TT} (h : PT X e t) (hw : ∀ σ H Q, LenOk H → t' σ H Q → t σ H (fun v H' => LenOk H' → Q v H')) : PT X e t' :=
  ⟨fun pins s σ H Q I q => thn (h.run pins s σ H _ I (hw σ H Q (lenOk_of I) q)) fun _ _ ⟨H', I', q'⟩ => ⟨H', I', q' (lenOk_of I')⟩⟩
theorem PW.fin {X : Cx} {e : Expr} {t t' : TT} (h : PW X e t) (hw : ∀ σ H Q, LenOk H → t' σ H Q → t σ H (fun v H' => LenOk H' → Q v H')) : PW X e t' :=
  ⟨fun wh pins s σ H Q I q => thn (h.run wh pins s σ H _ I (hw σ H Q (lenOk_of I) q)) fun _ _ ⟨H', I', q'⟩ => ⟨H', I', q' (lenOk_of I')⟩⟩
theorem PA.fin {X : Cx} {es : List Expr} {t t' : TA} (h : PA X es t) (hw : ∀ σ H Q, LenOk H → t' σ H Q → t σ H (fun v H' => LenOk H' → Q v H')) : PA X es t' :=
  ⟨fun pos pins s σ H Q I q => thn (h.run pos pins s σ H _ I (hw σ H Q (lenOk_of I) q)) fun _ _ ⟨v, H', I', r, q'⟩ => ⟨v, H', I', r, q' (lenOk_of I')⟩⟩

section
variable {X : Cx} {ct : List (Str × List Str)} {Wx : WX} {e a b : Expr} {es : List Expr} {f f1 f2 f3 : CE} {g : CA} {t t1 t2 : CT} {pos : Pos}
abbrev PF (X : Cx) (ct : List (Str × List Str)) (Wx : WX) (e : Expr) (f : CE) : Prop := PE X e (tF (Gx X ct) Wx f)
abbrev PTf (X : Cx) (ct : List (Str × List Str)) (Wx : WX) (e : Expr) (f : CT) : Prop := PT X e (tT (Gx X ct) Wx f)
abbrev PWf (X : Cx) (ct : List (Str × List Str)) (Wx : WX) (e : Expr) (f : CT) : Prop := PW X e (tT (Gx X ct) Wx f)
abbrev PAf (X : Cx) (ct : List (Str × List Str)) (Wx : WX) (es : List Expr) (g : CA) : Prop := PA X es (tA (Gx X ct) Wx g)

/-- a constant's reading -/
theorem pf_c {v : V} {d : D} (h : PE X e (tC v)) (r : ∀ W H, Rep (Gx X ct) W H d v) : PF X ct Wx e (cC d) := by
  refine PE.fin h ?_
  rintro σ H Q l ⟨W0, H0, W, E, M, rel, p⟩
  exact fun l' => p W H v Ext.refl rel (r W H) l'
theorem pf_int {i : Int} {j} : PF X ct Wx (.Constant (.int i) j pos) (cC (.int i)) := pf_c pe_int fun _ _ => .int i
theorem pf_bl {b : Bool} {j} : PF X ct Wx (.Constant (.bool b) j pos) (cC (.bl b)) := pf_c pe_bl fun _ _ => .bl b
theorem pf_non {j} : PF X ct Wx (.Constant .none j pos) (cC .non) := pf_c pe_non fun _ _ => .non
theorem pf_str {x : Str} {j} : PF X ct Wx (.Constant (.str x) j pos) (cC (.str x)) := pf_c pe_str fun _ _ => .str x

/-- a name of the def -/
theorem pf_v (i : Nat) {x : Str} (hN : X.N[i]? = some x := by rfl) (hv : Vis X.env.scope x := by first | exact Or.inl rfl | exact Or.inr (Or.inl rfl) | exact Or.inr (Or.inr rfl)) (hd : (x == ("__debug__" : Str)) = false := by decide)
    (hcd : (x == ("__classdict__" : Str)) = false := by decide) : PF X ct Wx (.Name x pos) (cV i) := by
  refine PE.fin (pe_var hN hv hd hcd) ?_
  rintro σ H Q l ⟨W0, H0, W, E, M, rel, p⟩
  dsimp only [cV] at p
  cases q : E[i]? with
  | none => rw [q] at p; exact p.elim
  | some s =>
    rw [q] at p
    cases s with
    | un => exact p.elim
    | ow c => exact p.elim
    | sh d =>
      obtain ⟨v, e, h⟩ := rel.slt i _ q
      exact ⟨v, e, fun l' => p W H v Ext.refl rel h l'⟩

end
end J
namespace J
open PySem PySem.Spec L2

/-! ### operands: a value, or a cell of the frame's own -/
inductive Seen (G : Gm) (W : Wd) (H : Hp) (σ : L2.St) (E : Env) : D → V → Prop
  | rep {d : D} {v : V} (h : Rep G W H d v) : Seen G W H σ E d v
  | own {i : Nat} {c : Cell} {v : V} (h1 : E[i]? = some (.ow c)) (h2 : σ[i]? = some (some v)) : Seen G W H σ E c.tree v
def tO (G : Gm) (Wx : WX) (f : CE) : TE := fun σ H Q => ∃ W0 H0 W E M, Rel G W0 H0 W σ H E M ∧ Post G Wx (fun W' H' => Seen G W' H' σ E) W0 H0 W H σ E (f E M) Q
abbrev POf (X : Cx) (ct : List (Str × List Str)) (Wx : WX) (e : Expr) (f : CE) : Prop := PE X e (tO (Gx X ct) Wx f)

section
variable {G : Gm} {Wx : WX} {W0 W W1 W' : Wd} {H0 H H1 H' : Hp} {σ : L2.St} {E : Env} {M M1 : Mem} {d : D} {v : V} {ds : List D}
theorem Seen.mono (x : Ext0 W H W1 H1) (s : Seen G W H σ E d v) : Seen G W1 H1 σ E d v := by
  cases s with
  | rep h => exact .rep (h.mono x)
  | own h1 h2 => exact .own h1 h2
theorem Post.imp {α β : Type} {Rp Rq : Wd → Hp → α → β → Prop} {r : R α} {Q : β → Hp → Prop} (h : Post G Wx Rq W0 H0 W H σ E r Q) (i : ∀ W H a b, Rp W H a b → Rq W H a b) : Post G Wx Rp W0 H0 W H σ E r Q := by
  cases r with
  | ok d M' => exact fun W' H' v x r p l => h W' H' v x r (i _ _ _ _ p) l
  | exc c ds M' => exact h
  | bad => exact h
theorem PE.o {X : Cx} {ct : List (Str × List Str)} {e : Expr} {f : CE} (h : PF X ct Wx e f) : POf X ct Wx e f :=
  ⟨fun pins s σ H Q I ⟨W0, H0, W, E, M, rel, p⟩ => h.run pins s σ H Q I ⟨W0, H0, W, E, M, rel, p.imp fun _ _ _ _ => .rep⟩⟩

/-- what is seen as a tree of some kind -/
theorem Rel.seen (r : Rel G W0 H0 W σ H E M) (s : Seen G W H σ E d v) :
    (∃ a c, v = .ref a ∧ view M d = c.tree ∧ CellOk G W H a c) ∨ (view M d = d ∧ Rep G W H d v) := by
  cases s with
  | rep h =>
    cases h with
    | @loc a l h =>
      have hl : l < W.phi.length := (List.getElem?_eq_some_iff.mp h).1
      have hl' : l < M.length := by rw [← r.len]; exact hl
      refine .inl ⟨a, M[l], rfl, ?_, r.cel l M[l] a (List.getElem?_eq_getElem hl') h⟩
      show (match M[l]? with | some c => c.tree | none => .non) = _
      rw [List.getElem?_eq_getElem hl']
    | non => exact .inr ⟨rfl, .non⟩
    | bl b => exact .inr ⟨rfl, .bl b⟩
    | int b => exact .inr ⟨rfl, .int b⟩
    | str b => exact .inr ⟨rfl, .str b⟩
    | tup h q => exact .inr ⟨rfl, .tup h q⟩
    | lst z h q => exact .inr ⟨rfl, .lst z h q⟩
    | scr h q => exact .inr ⟨rfl, .scr h q⟩
    | dK z h k q => exact .inr ⟨rfl, .dK z h k q⟩
    | dT z h k q => exact .inr ⟨rfl, .dT z h k q⟩
    | obj z t c h k q => exact .inr ⟨rfl, .obj z t c h k q⟩
    | fn h => exact .inr ⟨rfl, .fn h⟩
    | ty n => exact .inr ⟨rfl, .ty n⟩
  | @own i c v h1 h2 =>
    obtain ⟨a, e, h, _⟩ := r.slt i _ h1
    rw [h2] at e
    cases e
    refine .inl ⟨a, c, rfl, ?_, h⟩
    cases c <;> rfl
theorem see_int (r : Rel G W0 H0 W σ H E M) (s : Seen G W H σ E d v) {i : Int} (e : view M d = .int i) : v = .int i := by
  rcases r.seen s with ⟨a, c, _, q, _⟩ | ⟨q, h⟩
  · rw [e] at q; cases c <;> cases q
  · rw [e] at q; subst q; cases h; rfl
theorem see_bl (r : Rel G W0 H0 W σ H E M) (s : Seen G W H σ E d v) {i : Bool} (e : view M d = .bl i) : v = .bl i := by
  rcases r.seen s with ⟨a, c, _, q, _⟩ | ⟨q, h⟩
  · rw [e] at q; cases c <;> cases q
  · rw [e] at q; subst q; cases h; rfl
theorem see_str (r : Rel G W0 H0 W σ H E M) (s : Seen G W H σ E d v) {i : Str} (e : view M d = .str i) : v = .str i := by
  rcases r.seen s with ⟨a, c, _, q, _⟩ | ⟨q, h⟩
  · rw [e] at q; cases c <;> cases q
  · rw [e] at q; subst q; cases h; rfl
theorem see_tup (r : Rel G W0 H0 W σ H E M) (s : Seen G W H σ E d v) (e : view M d = .tup ds) : ∃ a vs, v = .ref a ∧ H a = some (.tup vs) ∧ Reps G W H ds vs ∧ d = .tup ds := by
  rcases r.seen s with ⟨a, c, _, q, _⟩ | ⟨q, h⟩
  · rw [e] at q; cases c <;> cases q
  · rw [e] at q; subst q
    cases h with
    | tup h q => exact ⟨_, _, rfl, h, q, rfl⟩
theorem see_lst (r : Rel G W0 H0 W σ H E M) (s : Seen G W H σ E d v) (e : view M d = .lst ds) : ∃ a vs, v = .ref a ∧ H a = some (.lst vs) ∧ Reps G W H ds vs := by
  rcases r.seen s with ⟨a, c, ev, q, h⟩ | ⟨q, h⟩
  · rw [e] at q
    cases c with
    | lst es => cases q; obtain ⟨vs, h1, h2⟩ := h; exact ⟨a, vs, ev, h1, h2⟩
    | _ => cases q
  · rw [e] at q; subst q
    cases h with
    | lst z h q => exact ⟨_, _, rfl, h, q⟩
theorem see_scr (r : Rel G W0 H0 W σ H E M) (s : Seen G W H σ E d v) (e : view M d = .scr ds) : ∃ a vs, v = .ref a ∧ SqL G.K H a vs ∧ Reps G W H ds vs := by
  rcases r.seen s with ⟨a, c, ev, q, h⟩ | ⟨q, h⟩
  · rw [e] at q
    cases c <;> cases q
  · rw [e] at q; subst q
    cases h with
    | scr h q =>
      rcases h with ⟨o, h⟩ | h
      · exact ⟨_, _, rfl, .inl (.inr ⟨o, h⟩), q⟩
      · exact ⟨_, _, rfl, .inr h, q⟩
theorem see_dK (r : Rel G W0 H0 W σ H E M) (s : Seen G W H σ E d v) {kvs : List (Key × D)} (e : view M d = .dK kvs) :
    ∃ a, ∃ vs : List (Key × V), v = .ref a ∧ Rd H a (.dK vs) ∧ vs.map (·.1) = kvs.map (·.1) ∧ Reps G W H (kvs.map (·.2)) (vs.map (·.2)) := by
  rcases r.seen s with ⟨a, c, ev, q, h⟩ | ⟨q, h⟩
  · rw [e] at q
    cases c with
    | dK es => cases q; obtain ⟨vs, h1, h2, h3⟩ := h; exact ⟨a, vs, ev, .inl h1, h2, h3⟩
    | _ => cases q
  · rw [e] at q; subst q
    cases h with
    | dK z h k q => exact ⟨_, _, rfl, h, k, q⟩
theorem see_dT (r : Rel G W0 H0 W σ H E M) (s : Seen G W H σ E d v) {kvs : List (List Key × D)} (e : view M d = .dT kvs) :
    ∃ a, ∃ vs : List (List Key × V), v = .ref a ∧ Rd H a (.dT vs) ∧ vs.map (·.1) = kvs.map (·.1) ∧ Reps G W H (kvs.map (·.2)) (vs.map (·.2)) := by
  rcases r.seen s with ⟨a, c, ev, q, h⟩ | ⟨q, h⟩
  · rw [e] at q
    cases c with
    | dT es => cases q; obtain ⟨vs, h1, h2, h3⟩ := h; exact ⟨a, vs, ev, .inl h1, h2, h3⟩
    | _ => cases q
  · rw [e] at q; subst q
    cases h with
    | dT z h k q => exact ⟨_, _, rfl, h, k, q⟩
theorem see_obj (r : Rel G W0 H0 W σ H E M) (s : Seen G W H σ E d v) {c : Nat} (e : view M d = .obj c ds) :
    ∃ nm ns a C dx, ∃ vs : List (Str × V), v = .ref a ∧ G.ct[c]? = some (nm, ns) ∧ G.mg nm = some (.ref C) ∧ H a = some (.ins C dx vs) ∧ vs.map (·.1) = ns.take ds.length ∧ Reps G W H ds (vs.map (·.2)) := by
  rcases r.seen s with ⟨a, c', ev, q, h⟩ | ⟨q, h⟩
  · rw [e] at q
    cases c' with
    | ins c' es =>
      injection q with q1 q2
      subst q1 q2
      obtain ⟨nm, ns, C, dx, vs, h1, h2, h3, h4, h5⟩ := h
      exact ⟨nm, ns, a, C, dx, vs, ev, h1, h2, h3, h4, h5⟩
    | _ => cases q
  · rw [e] at q; subst q
    cases h with
    | obj z t c h k q => exact ⟨_, _, _, _, _, _, rfl, t, c, h, k, q⟩
end

section
variable {X : Cx} {ct : List (Str × List Str)} {Wx : WX} {e a b : Expr} {es : List Expr} {f f1 f2 f3 : CE} {g : CA} {t t1 t2 : CT} {pos : Pos}
/-- a cell of the frame's own, by its name -/
theorem po_own (i : Nat) {x : Str} (hN : X.N[i]? = some x := by rfl) (hv : Vis X.env.scope x := by first | exact Or.inl rfl | exact Or.inr (Or.inl rfl) | exact Or.inr (Or.inr rfl)) (hd : (x == ("__debug__" : Str)) = false := by decide)
    (hcd : (x == ("__classdict__" : Str)) = false := by decide) : POf X ct Wx (.Name x pos) (oV i) := by
  refine PE.fin (pe_var hN hv hd hcd) ?_
  rintro σ H Q l ⟨W0, H0, W, E, M, rel, p⟩
  dsimp only [oV] at p
  cases q : E[i]? with
  | none => rw [q] at p; exact p.elim
  | some s =>
    rw [q] at p
    cases s with
    | un => exact p.elim
    | sh d => exact p.elim
    | ow c =>
      obtain ⟨v, e, h⟩ := rel.slt i _ q
      exact ⟨_, e, fun l' => p W H _ Ext.refl rel (.own q e) l'⟩

/-- an operation by values: f does what g says -/
def OpF (X : Cx) (ct : List (Str × List Str)) (f : Value → Value → Sem Value) (gg : D → D → Option D) : Prop :=
  ∃ r : R2, OpR X f r ∧ ∀ W0 H0 W σ H E M d1 d2 v1 v2 d Q, Rel (Gx X ct) W0 H0 W σ H E M → LenOk H → Seen (Gx X ct) W H σ E d1 v1 → Seen (Gx X ct) W H σ E d2 v2 → gg (view M d1) (view M d2) = some d →
      (∀ W' H' v, Ext W H W' H' → CRel (Gx X ct) W' H' M → Rep (Gx X ct) W' H' d v → LenOk H' → Q v H') → r v1 v2 H Q
theorem pf_op2 {r : R2} {gg : D → D → Option D} {e' : Expr} (hb : PE X e' (tOp r (tO (Gx X ct) Wx f1) (tO (Gx X ct) Wx f2)))
    (hr : ∀ W0 H0 W σ H E M d1 d2 v1 v2 d Q, Rel (Gx X ct) W0 H0 W σ H E M → LenOk H → Seen (Gx X ct) W H σ E d1 v1 → Seen (Gx X ct) W H σ E d2 v2 → gg (view M d1) (view M d2) = some d →
      (∀ W' H' v, Ext W H W' H' → CRel (Gx X ct) W' H' M → Rep (Gx X ct) W' H' d v → LenOk H' → Q v H') → r v1 v2 H Q) : PF X ct Wx e' (c2 gg f1 f2) := by
  refine PE.fin hb ?_
  rintro σ H Q l ⟨W0, H0, W, E, M, rel, p⟩
  refine ⟨W0, H0, W, E, M, rel, Post.bind p fun d1 M1 W1 H1 v1 _ x1 rel1 p1 l1 p => ?_⟩
  refine ⟨W0, H0, W1, E, M1, rel1, Post.bind p fun d2 M2 W2 H2 v2 _ x2 rel2 p2 l2 p => ?_⟩
  cases q : gg (view M2 d1) (view M2 d2) with
  | none => rw [q] at p; exact p.elim
  | some d =>
    rw [q] at p
    exact hr W0 H0 W2 σ H2 E M2 d1 d2 v1 v2 d _ rel2 l2 (p1.mono x2.toExt0) p2 q fun W' H' v x' c' r' l' l'' => p W' H' v x' (rel2.after x' c') r' l''
theorem pf_bin {op : Operator} {gg : D → D → Option D} (ho : OpF X ct (binaryOp op) gg) (ha : POf X ct Wx a f1) (hb : POf X ct Wx b f2) : PF X ct Wx (.BinOp a op b pos) (c2 gg f1 f2) := by
  obtain ⟨r, h1, h2⟩ := ho
  exact pf_op2 (pe_op h1 ha hb) h2
theorem pf_cmp {op : CmpOp} {gg : D → D → Option D} (ho : OpF X ct (compareOp op) gg) (ha : POf X ct Wx a f1) (hb : POf X ct Wx b f2) (hm : behindInMarks op b = false) : PF X ct Wx (.Compare a [op] [b] pos) (c2 gg f1 f2) := by
  obtain ⟨r, h1, h2⟩ := ho
  exact pf_op2 (pe_cmpR h1 ha hb hm) h2
/-- .. as a test -/
theorem pt_cmp' {op : CmpOp} {gg : D → D → Option D} (ho : OpF X ct (compareOp op) gg) (ha : POf X ct Wx a f1) (hb : POf X ct Wx b f2) (hm : behindInMarks op b = false) : PTf X ct Wx (.Compare a [op] [b] pos) (tV (c2 gg f1 f2)) := by
  obtain ⟨r, h1, h2⟩ := ho
  refine PT.fin (pt_cmpR h1 ha hb hm) ?_
  rintro σ H Q l ⟨W0, H0, W, E, M, rel, p⟩
  refine ⟨W0, H0, W, E, M, rel, ?_⟩
  have p' : Post (Gx X ct) Wx RpB W0 H0 W H σ E ((f1 E M).bind fun d1 M1 => ((f2 E M1).bind fun d2 M2 => ofO (gg (view M2 d1) (view M2 d2)) M2).bind fun d M => match d with | .bl b => .ok b M | _ => .bad) Q := by
    dsimp only [tV, c2] at p
    cases h : f1 E M <;> rw [h] at p <;> exact p
  refine Post.bind p' fun d1 M1 W1 H1 v1 _ x1 rel1 p1 l1 p => ?_
  refine ⟨W0, H0, W1, E, M1, rel1, ?_⟩
  have p' : Post (Gx X ct) Wx RpB W0 H0 W1 H1 σ E ((f2 E M1).bind fun d2 M2 => ((ofO (gg (view M2 d1) (view M2 d2)) M2).bind fun d M => match d with | .bl b => .ok b M | _ => .bad)) Q := by
    cases h : f2 E M1 <;> rw [h] at p <;> exact p
  refine Post.bind p' fun d2 M2 W2 H2 v2 _ x2 rel2 p2 l2 p => ?_
  cases q : gg (view M2 d1) (view M2 d2) with
  | none => rw [q] at p; exact p.elim
  | some d =>
    rw [q] at p
    refine h2 W0 H0 W2 σ H2 E M2 d1 d2 v1 v2 d _ rel2 l2 (p1.mono x2.toExt0) p2 q fun W' H' v x' c' r' l' => ?_
    cases r' with
    | bl k => exact ⟨k, rfl, fun l'' => p W' H' k x' (rel2.after x' c') rfl l'⟩
    | _ => exact p.elim

/-! ### ints -/
theorem opf_int {fx : Value → Value → Sem Value} {C : Int → Int → Prop} {gv : Int → Int → V} {gg : D → D → Option D} (ho : OpR X fx (rI C gv))
    (hg : ∀ a b d, gg a b = some d → ∃ i j, a = .int i ∧ b = .int j ∧ C i j ∧ ∀ W H, Rep (Gx X ct) W H d (gv i j)) : OpF X ct fx gg := by
  refine ⟨_, ho, fun W0 H0 W σ H E M d1 d2 v1 v2 d Q rel l s1 s2 q k => ?_⟩
  obtain ⟨i, j, e1, e2, c, hd⟩ := hg _ _ _ q
  exact ⟨i, j, see_int rel s1 e1, see_int rel s2 e2, c, k W H _ Ext.refl rel.toCRel (hd W H) l⟩
theorem opf_int0 {fx : Value → Value → Sem Value} {gv : Int → Int → V} {gg : D → D → Option D} (ho : OpR X fx (rI0 gv))
    (hg : ∀ a b d, gg a b = some d → ∃ i j, a = .int i ∧ b = .int j ∧ ∀ W H, Rep (Gx X ct) W H d (gv i j)) : OpF X ct fx gg := by
  refine ⟨_, ho, fun W0 H0 W σ H E M d1 d2 v1 v2 d Q rel l s1 s2 q k => ?_⟩
  obtain ⟨i, j, e1, e2, hd⟩ := hg _ _ _ q
  exact ⟨i, j, see_int rel s1 e1, see_int rel s2 e2, k W H _ Ext.refl rel.toCRel (hd W H) l⟩
theorem of_sub : OpF X ct (binaryOp .Sub) gSub := opf_int0 op_sub fun a b d h => by
  unfold gSub at h; split at h
  · cases h; exact ⟨_, _, rfl, rfl, fun _ _ => .int _⟩
  · cases h
theorem of_mod : OpF X ct (binaryOp .Mod) gMod := opf_int op_mod fun a b d h => by
  unfold gMod at h; split at h
  · split at h
    · rename_i c; cases h; exact ⟨_, _, rfl, rfl, c, fun _ _ => .int _⟩
    · cases h
  · cases h
theorem of_div : OpF X ct (binaryOp .FloorDiv) gDiv := opf_int op_fdiv fun a b d h => by
  unfold gDiv at h; split at h
  · split at h
    · rename_i c; cases h; exact ⟨_, _, rfl, rfl, c, fun _ _ => .int _⟩
    · cases h
  · cases h
theorem of_pow : OpF X ct (binaryOp .Pow) gPow := opf_int op_pow fun a b d h => by
  unfold gPow at h; split at h
  · split at h
    · rename_i c; cases h; exact ⟨_, _, rfl, rfl, c, fun _ _ => .int _⟩
    · cases h
  · cases h
theorem of_lt : OpF X ct (compareOp .Lt) gLt := opf_int0 op_lt fun a b d h => by
  unfold gLt at h; split at h
  · cases h; exact ⟨_, _, rfl, rfl, fun _ _ => .bl _⟩
  · cases h
theorem of_le : OpF X ct (compareOp .LtE) gLe := opf_int0 op_le fun a b d h => by
  unfold gLe at h; split at h
  · cases h; exact ⟨_, _, rfl, rfl, fun _ _ => .bl _⟩
  · cases h
theorem of_gt : OpF X ct (compareOp .Gt) gGt := opf_int0 op_gt fun a b d h => by
  unfold gGt at h; split at h
  · cases h; exact ⟨_, _, rfl, rfl, fun _ _ => .bl _⟩
  · cases h
theorem of_ge : OpF X ct (compareOp .GtE) gGe := opf_int0 op_ge fun a b d h => by
  unfold gGe at h; split at h
  · cases h; exact ⟨_, _, rfl, rfl, fun _ _ => .bl _⟩
  · cases h
end
end J
namespace J
open PySem PySem.Spec L2

section
variable {G : Gm} {Wx : WX} {W0 W W1 W' : Wd} {H0 H H1 H' : Hp} {σ : L2.St} {E : Env} {M M1 : Mem} {d : D} {v : V} {ds : List D}

theorem reps_ints : ∀ {ds : List D} {vs : List V} {ns : List Int}, Reps G W H ds vs → intsD ds = some ns → vs = ns.map V.int
  | [], _, ns, r, e => by
    cases r
    cases e
    rfl
  | d :: ds, _, ns, r, e => by
    cases r with
    | cons h t =>
      cases d with
      | int i =>
        simp only [intsD, Option.map_eq_some_iff] at e
        obtain ⟨ms, e1, rfl⟩ := e
        cases h
        rw [reps_ints t e1]
        rfl
      | _ => cases e
theorem reps_bools : ∀ {ds : List D} {vs : List V} {ns : List Bool}, Reps G W H ds vs → boolsD ds = some ns → vs = ns.map V.bl
  | [], _, ns, r, e => by
    cases r
    cases e
    rfl
  | d :: ds, _, ns, r, e => by
    cases r with
    | cons h t =>
      cases d with
      | bl i =>
        simp only [boolsD, Option.map_eq_some_iff] at e
        obtain ⟨ms, e1, rfl⟩ := e
        cases h
        rw [reps_bools t e1]
        rfl
      | _ => cases e
theorem rep_key {d : D} {v : V} {k : Key} (r : Rep G W H d v) (e : keyOf d = some k) : v = kV k := by
  cases d with
  | int i => cases e; cases r; rfl
  | str i => cases e; cases r; rfl
  | _ => cases e
theorem reps_keys : ∀ {ds : List D} {vs : List V} {ks : List Key}, Reps G W H ds vs → keysOf ds = some ks → vs = ks.map kV
  | [], _, ks, r, e => by
    cases r
    cases e
    rfl
  | d :: ds, _, ks, r, e => by
    cases r with
    | cons h t =>
      simp only [keysOf, Option.bind_eq_some_iff] at e
      obtain ⟨k, e1, ks', e2, e3⟩ := e
      cases e3
      rw [rep_key h e1, reps_keys t e2]
      rfl
/-- a dict's entries and what is looked up -/
theorem reps_look {κ : Type} [DecidableEq κ] {k : κ} : ∀ {kvs : List (κ × D)} {vs : List (κ × V)}, vs.map (·.1) = kvs.map (·.1) → Reps G W H (kvs.map (·.2)) (vs.map (·.2)) →
    (∀ {d : D}, look kvs k = some d → ∃ v, valV vs k = some v ∧ Rep G W H d v) ∧ (look kvs k = none → valV vs k = none)
  | [], vs, e, r => by
    cases vs with
    | nil => exact ⟨fun h => (nomatch h), fun _ => rfl⟩
    | cons _ _ => cases e
  | kv :: kvs, vs, e, r => by
    cases vs with
    | nil => cases e
    | cons p vs =>
      rw [List.map_cons, List.map_cons] at e r
      injection e with e1 e2
      cases r with
      | cons h t =>
        by_cases q : kv.1 = k
        · refine ⟨fun {d} hd => ?_, fun hd => ?_⟩
          · have : look (kv :: kvs) k = some kv.2 := by simp [look, List.find?_cons, q]
            rw [this] at hd
            cases hd
            exact ⟨_, valV_pos (e1.trans q), h⟩
          · have : look (kv :: kvs) k = some kv.2 := by simp [look, List.find?_cons, q]
            rw [this] at hd
            cases hd
        · have e3 : look (kv :: kvs) k = look kvs k := by simp [look, List.find?_cons, q]
          have e4 : valV (p :: vs) k = valV vs k := valV_neg (by rw [e1]; exact q)
          rw [e3, e4]
          exact reps_look e2 t
theorem any_look {κ : Type} [DecidableEq κ] (k : κ) : ∀ kvs : List (κ × D), (kvs.any fun kv => decide (kv.1 = k)) = (look kvs k).isSome
  | [] => rfl
  | kv :: r => by
    by_cases e : kv.1 = k
    · simp [look, List.find?_cons, e]
    · have h : look (kv :: r) k = look r k := by simp [look, List.find?_cons, e]
      rw [List.any_cons, any_look k r, h]
      simp [e]
end

section
variable {X : Cx} {ct : List (Str × List Str)} {Wx : WX} {e a b : Expr} {es : List Expr} {f f1 f2 f3 : CE} {g : CA} {t t1 t2 : CT} {pos : Pos}

/-! ### tuples: concatenation with an empty left side -/
theorem cat_tup0 {prog : Program} {w : World} {A : Around} {E : Value → Shared → Prop} {s : Shared} {t b : Addr} {ws : List Value} {Q : Value → Shared → Prop} (ht : PyProof.Rows.IsTup s.heap t ([] : List Value).toArray) (hb : PyProof.Rows.IsTup s.heap b ws.toArray)
    (h : Q (.ref b) s) : wpAny (model prog w) A (binaryOp .Add (.ref t) (.ref b)) Q E s := by
  obtain ⟨⟨cls, dd, data, sl⟩, ho, hc, n, hd⟩ := id ht
  obtain ⟨⟨cls2, dd2, data2, sl2⟩, ho2, hc2, n2, hd2⟩ := id hb
  simp only at hc hd hc2 hd2
  subst hc hd hc2 hd2
  exact concat_meets ⟨_, ho, rfl⟩ ⟨_, ho2, rfl⟩ noFill_tuple_add seq_tuple_add PySem.F.slot_tuple_add PySem.F.entry_tuple_add (PySem.F.args_tuple_add_2 _ _)
      (PyProof.Rows.tuple_addW0 t b _ ws.toArray n n2 dd dd2 sl sl2 (by simp)) ⟨ho, ho2, h⟩

/-! ### tuples: repeated -/
theorem noR_tuple_mul : typeLookup (.type "tuple") (dunderR "mul") = pure (some (.builtin "tuple.__rmul__")) := by rw [typeLookup_type, builtinLookup_eq_fast]; kernel_rfl
theorem noFill_tuple_mul : fillsNumberSlot (.type "tuple") "mul" = pure false := fillsNumberSlot_seq (id := "tuple.__mul__") (r := some (.builtin "tuple.__rmul__")) PySem.F.slot_tuple_mul.lookup (by decide +kernel) noR_tuple_mul (by decide +kernel)
theorem repeat_tuple : seqRepeat? (.type "tuple") = pure (some (.builtin "tuple.__mul__")) := by
  unfold seqRepeat?
  rw [seqSlot_of (T := "tuple") (name := "__mul__") (id := "tuple.__mul__") PySem.F.slot_tuple_mul.lookup (by decide +kernel), seqSlot_of (T := "tuple") (name := "__rmul__") (id := "tuple.__rmul__") noR_tuple_mul (by decide +kernel)]
  rfl
theorem int_rmul_tuple (a : Int) (t : Tok) (l : Addr) (items : Array Value) (n : Nat) (dd : Option Addr) (sl : Array (Option Value)) :
    Meets (Builtin.«int.__rmul__» ⟨[.int a t, .ref l], []⟩) (fun _ R s => s.heap.get? l = some { cls := .type "tuple", dict := dd, data := .seq items n, slots := sl } ∧ R (.ok (.ret Value.notImplemented)) s) :=
  .of_wp fun prog w A R s h => by
    obtain ⟨hp, g, d, tk, os⟩ := s; obtain ⟨hl, h⟩ := h
    wp_walk; exact ⟨_, rfl, h⟩
theorem ite_bf {M : Model} {A : Around} {E : Value → Shared → Prop} {s : Shared} {α : Type} {c : Bool} {a b : Sem α} {Q : α → Shared → Prop} (hc : c = false) (h : wpAny M A b Q E s) : wpAny M A (if c = true then a else b) Q E s := by
  rw [if_neg (by rw [hc]; decide)]; exact h
theorem ite_bt {M : Model} {A : Around} {E : Value → Shared → Prop} {s : Shared} {α : Type} {c : Bool} {a b : Sem α} {Q : α → Shared → Prop} (hc : c = true) (h : wpAny M A a Q E s) : wpAny M A (if c = true then a else b) Q E s := by
  rw [if_pos hc]; exact h
theorem tuple_mul_same (x : Int) (u : Tok) (l : Addr) (items : Array Value) (n : Nat) (dd : Option Addr) (sl : Array (Option Value)) (h1 : (decide (x < -2 ^ 63) || decide (x ≥ 2 ^ 63)) = false) (h2 : (items.isEmpty || x == 1) = true) :
    Meets (Builtin.«tuple.__mul__» ⟨[.ref l, .int x u], []⟩) (fun _ R s => s.heap.get? l = some { cls := .type "tuple", dict := dd, data := .seq items n, slots := sl } ∧ R (.ok (.ret (Value.ref l))) s) :=
  .of_wp fun prog w A R s h => by
    obtain ⟨hp, g, d, tk, os⟩ := s; obtain ⟨hl, h⟩ := h
    have f1 := AutoSeq1.idx_int
    have f2 := AutoSeq1.sub_tuple_tuple
    wp_walk
    refine ite_bf h1 ?_
    wp_walk using AutoSeq1.wpAny_loadPart' hl
    exact ⟨_, rfl, h⟩
theorem tuple_mul_none (x : Int) (u : Tok) (l : Addr) (items : Array Value) (n : Nat) (dd : Option Addr) (sl : Array (Option Value)) (h1 : (decide (x < -2 ^ 63) || decide (x ≥ 2 ^ 63)) = false) (h2 : (items.isEmpty || x == 1) = false) (h3 : (decide (x ≤ 0) || items.isEmpty) = true) :
    Meets (Builtin.«tuple.__mul__» ⟨[.ref l, .int x u], []⟩) (fun _ R s => s.heap.get? l = some { cls := .type "tuple", dict := dd, data := .seq items n, slots := sl } ∧ R (.ok (.ret (Value.ref s.heap.objs.size))) { s with heap := s.heap.push { cls := .type "tuple", data := .seq #[] } }) :=
  .of_wp fun prog w A R s h => by
    obtain ⟨hp, g, d, tk, os⟩ := s; obtain ⟨hl, h⟩ := h
    have f1 := AutoSeq1.idx_int
    have f2 := AutoSeq1.sub_tuple_tuple
    wp_walk
    refine ite_bf h1 ?_
    wp_walk using AutoSeq1.wpAny_loadPart' hl
    exact ⟨_, rfl, h⟩
theorem tuple_mul_new (x : Int) (u : Tok) (l : Addr) (items : Array Value) (n : Nat) (dd : Option Addr) (sl : Array (Option Value)) (h1 : (decide (x < -2 ^ 63) || decide (x ≥ 2 ^ 63)) = false) (h2 : (items.isEmpty || x == 1) = false) (h3 : (decide (x ≤ 0) || items.isEmpty) = false)
    (h4 : ¬ (items.size : Int) * x > (2 ^ 63 - 1) / 8) (h5 : Builtin.Tuple.tupleTooMany ((items.size : Int) * x) = false) (h6 : (List.foldl (fun x1 x2 => x1 ++ x2) #[] (List.replicate x.toNat items)).size ≤ sizeLine) :
    Meets (Builtin.«tuple.__mul__» ⟨[.ref l, .int x u], []⟩) (fun _ R s => s.heap.get? l = some { cls := .type "tuple", dict := dd, data := .seq items n, slots := sl } ∧ R (.ok (.ret (Value.ref s.heap.objs.size))) { s with heap := s.heap.push { cls := .type "tuple", data := .seq (List.foldl (fun x1 x2 => x1 ++ x2) #[] (List.replicate x.toNat items)) } }) :=
  .of_wp fun prog w A R s h => by
    obtain ⟨hp, g, d, tk, os⟩ := s; obtain ⟨hl, h⟩ := h
    have f1 := AutoSeq1.idx_int
    have f2 := AutoSeq1.sub_tuple_tuple
    wp_walk
    refine ite_bf h1 ?_
    wp_walk using AutoSeq1.wpAny_loadPart' hl
    refine wpAny_ite_false (decide_eq_false h4) ?_
    wp_walk
    exact ⟨_, rfl, h⟩

theorem rep_fold : ∀ (m : Nat) (its acc : List Value), List.foldl (fun x1 x2 => x1 ++ x2) acc.toArray (List.replicate m its.toArray) = (acc ++ (List.replicate m its).flatten).toArray
  | 0, its, acc => by simp
  | m + 1, its, acc => by
    rw [List.replicate_succ, List.foldl_cons, List.replicate_succ, List.flatten_cons]
    have e : acc.toArray ++ its.toArray = (acc ++ its).toArray := by simp
    rw [e, rep_fold m its (acc ++ its), List.append_assoc]
theorem Vals.repl {xs : List V} {us : List Value} (r : Vals xs us) : ∀ n : Nat, Vals (List.replicate n xs).flatten (List.replicate n us).flatten
  | 0 => .nil
  | n + 1 => by
    rw [List.replicate_succ, List.flatten_cons, List.replicate_succ, List.flatten_cons]
    exact r.append (Vals.repl r n)
theorem len_repl {α : Type} (xs : List α) : ∀ n : Nat, (List.replicate n xs).flatten.length = n * xs.length
  | 0 => by simp
  | n + 1 => by rw [List.replicate_succ, List.flatten_cons, List.length_append, len_repl xs n, Nat.succ_mul, Nat.add_comm]
/-- a tuple times an int -/
def rRepT : R2 := fun x y H Q => ∃ a k xs, x = .ref a ∧ y = .int k ∧ H a = some (.tup xs) ∧ -(2 ^ 63) ≤ k ∧ k < 2 ^ 63 ∧ xs.length * k.toNat ≤ sizeLine ∧
  ((xs = [] ∨ k = 1) → Q (.ref a) H) ∧ (¬ (xs = [] ∨ k = 1) → ∀ p, H p = none → Q (.ref p) (upd H p (.tup (List.replicate k.toNat xs).flatten)))
theorem op_repT : OpR X (binaryOp .Mult) rRepT := by
  intro pins s σ H x y v u Q I rx ry h
  obtain ⟨a, k, xs, rfl, rfl, hH, h1, h2, hz, q1, q2⟩ := h
  cases rx
  obtain ⟨t, rfl⟩ := ry
  obtain ⟨z, its, r, p⟩ := (show ObjOk X.prog X.w H s.heap a (.tup xs) from I.hok a _ hH)
  obtain ⟨⟨cls, dd, data, sl⟩, ho, hc, n, hd⟩ := id p
  simp only at hc hd
  subst hc hd
  have e1 : (decide (k < -2 ^ 63) || decide (k ≥ 2 ^ 63)) = false := by
    rw [Bool.or_eq_false_iff]
    exact ⟨decide_eq_false (by omega), decide_eq_false (by omega)⟩
  have hl := r.length
  refine wpAny_binaryOp_repeat_ref (T := "tuple") (U := "int") (by decide) p.typeIs (fun s' => typeIs_int s' k t) noFill_tuple_mul PySem.F.fills_int_mul PySem.F.slot_int_rmul repeat_tuple PySem.F.slot_int_index.lookup
    (call_meets PySem.F.slot_int_rmul (typeIs_int s k t) PySem.F.entry_int_rmul (PySem.F.args_int_rmul_2 _ _) (int_rmul_tuple k t a its.toArray n dd sl)
      ⟨ho, rfl, p.typeIs, ?_⟩)
  by_cases c : xs = [] ∨ k = 1
  · have e2 : (its.toArray.isEmpty || k == 1) = true := by
      rcases c with c | c
      · subst c
        have : its = [] := List.length_eq_zero_iff.mp hl.symm
        subst this
        rfl
      · subst c; simp
    exact call_meets PySem.F.slot_tuple_mul p.typeIs PySem.F.entry_tuple_mul (PySem.F.args_tuple_mul_2 _ _) (tuple_mul_same k t a its.toArray n dd sl e1 e2) ⟨ho, ⟨.ref a, H, I, rfl, q1 c⟩⟩
  · have n1 : its ≠ [] := fun q => c (.inl (List.length_eq_zero_iff.mp (by rw [hl, q]; rfl)))
    have n2 : k ≠ 1 := fun q => c (.inr q)
    have e2 : (its.toArray.isEmpty || k == 1) = false := by
      rw [Bool.or_eq_false_iff]
      refine ⟨?_, by simpa using n2⟩
      cases its with
      | nil => exact (n1 rfl).elim
      | cons _ _ => simp
    have hfr : H s.heap.objs.size = none := I.hok.fresh (Nat.le_refl _)
    have q2 := q2 c _ hfr
    by_cases e3 : k ≤ 0
    · have k0 : k.toNat = 0 := by omega
      rw [k0] at q2
      refine call_meets PySem.F.slot_tuple_mul p.typeIs PySem.F.entry_tuple_mul (PySem.F.args_tuple_mul_2 _ _) (tuple_mul_none k t a its.toArray n dd sl e1 e2 (by rw [decide_eq_true e3]; rfl)) ⟨ho, ?_⟩
      refine ⟨.ref s.heap.objs.size, _, I.laid (t' := s.toks) (o := .tup []) (fun b ob q => Heap.get?_push_of_some _ q) (Nat.le_refl _) ?_, rfl, q2⟩
      exact ⟨Nat.zero_le _, [], .nil, PyProof.Rows.IsTup.new _ _⟩
    · have ef := rep_fold k.toNat its []
      rw [List.nil_append] at ef
      have hsz : (its.toArray.size : Int) * k ≤ sizeLine := by
        rw [List.size_toArray, ← hl]
        have : ((xs.length * k.toNat : Nat) : Int) ≤ (sizeLine : Int) := by exact_mod_cast hz
        rw [Int.natCast_mul] at this
        have e4 : ((k.toNat : Nat) : Int) = k := by omega
        rw [e4] at this
        exact this
      have hsl : (sizeLine : Int) = 16777216 := rfl
      refine call_meets PySem.F.slot_tuple_mul p.typeIs PySem.F.entry_tuple_mul (PySem.F.args_tuple_mul_2 _ _) (tuple_mul_new k t a its.toArray n dd sl e1 e2 ?_ ?_ ?_ ?_) ⟨ho, ?_⟩
      · rw [Bool.or_eq_false_iff]
        exact ⟨decide_eq_false e3, (Bool.or_eq_false_iff.mp e2).1⟩
      · generalize (its.toArray.size : Int) * k = m at hsz ⊢
        omega
      · unfold Builtin.Tuple.tupleTooMany
        exact decide_eq_false (by omega)
      · rw [show (#[] : Array Value) = ([] : List Value).toArray from rfl, ef, List.size_toArray, len_repl, ← hl, Nat.mul_comm]; exact hz
      · rw [show (#[] : Array Value) = ([] : List Value).toArray from rfl, ef]
        refine ⟨.ref s.heap.objs.size, _, I.laid (t' := s.toks) (o := .tup (List.replicate k.toNat xs).flatten) (fun b ob q => Heap.get?_push_of_some _ q) (Nat.le_refl _) ?_, rfl, q2⟩
        exact ⟨by rw [len_repl, Nat.mul_comm]; exact hz, _, Vals.repl r k.toNat, PyProof.Rows.IsTup.new _ _⟩
end
end J
namespace J
open PySem PySem.Spec L2

section
variable {X : Cx} {ct : List (Str × List Str)} {Wx : WX} {e a b : Expr} {es : List Expr} {f f1 f2 f3 : CE} {g : CA} {t t1 t2 : CT} {pos : Pos}

/-- t + u, t empty -/
theorem op_catT0 : OpR X (binaryOp .Add) (fun x y H Q => ∃ a b ys, x = .ref a ∧ y = .ref b ∧ H a = some (.tup []) ∧ H b = some (.tup ys) ∧ Q (.ref b) H) := by
  intro pins s σ H x y v u Q I rx ry h
  obtain ⟨a, b, ys, rfl, rfl, ha, hb, q⟩ := h
  cases rx
  cases ry
  obtain ⟨_, its, r, p⟩ := (show ObjOk X.prog X.w H s.heap a (.tup []) from I.hok a _ ha)
  obtain ⟨_, its2, r2, p2⟩ := (show ObjOk X.prog X.w H s.heap b (.tup ys) from I.hok b _ hb)
  cases r
  exact cat_tup0 p p2 ⟨.ref b, H, I, rfl, q⟩

theorem of_add : OpF X ct (binaryOp .Add) gAdd := by
  refine ⟨_, op_add.or (op_catT.or (op_catT0.or op_cat)), fun W0 H0 W σ H E M d1 d2 v1 v2 d Q rel l s1 s2 q k => ?_⟩
  unfold gAdd at q
  split at q
  · rename_i i j e1 e2
    cases q
    exact .inl ⟨i, j, see_int rel s1 e1, see_int rel s2 e2, k W H _ Ext.refl rel.toCRel (.int _) l⟩
  · rename_i as bs e1 e2
    split at q
    · rename_i hz
      cases q
      obtain ⟨p1, vs1, rfl, h1, r1, rfl⟩ := see_tup rel s1 e1
      obtain ⟨p2, vs2, rfl, h2, r2, rfl⟩ := see_tup rel s2 e2
      have hz' : vs1.length + vs2.length ≤ sizeLine := by rw [← r1.length, ← r2.length]; exact hz
      by_cases c : vs1 = []
      · subst c
        cases r1
        refine .inr (.inr (.inl ⟨p1, p2, vs2, rfl, rfl, h1, h2, k W H _ Ext.refl rel.toCRel ?_ l⟩))
        exact .tup h2 r2
      · refine .inr (.inl ⟨p1, p2, vs1, vs2, rfl, rfl, .of h1, .of h2, c, hz', fun z => ?_, fun z p hp => ?_⟩)
        · subst z
          cases r2
          refine k W H _ Ext.refl rel.toCRel ?_ l
          rw [List.append_nil]
          exact .tup h1 r1
        · have x := Ext.new (o := .tup (vs1 ++ vs2)) rel.toCRel hp
          exact k W _ _ x (rel.toCRel.new hp) (.tup upd_same ((r1.append r2).mono x.toExt0)) (l.new hp (fun _ q => by cases q) (fun _ q => by cases q; rw [List.length_append]; exact hz') fun _ _ q => by cases q)
    · cases q
  · rename_i as bs e1 e2
    split at q
    · rename_i hz
      cases q
      obtain ⟨p1, vs1, rfl, h1, r1⟩ := see_lst rel s1 e1
      obtain ⟨p2, vs2, rfl, h2, r2⟩ := see_lst rel s2 e2
      have hz' : vs1.length + vs2.length ≤ sizeLine := by rw [← r1.length, ← r2.length]; exact hz
      refine .inr (.inr (.inr ⟨p1, p2, vs1, vs2, rfl, rfl, h1, h2, hz', fun p hp => ?_⟩))
      have x := Ext.newZ (o := .lst (vs1 ++ vs2)) rel.toCRel hp
      exact k _ _ _ x (rel.toCRel.newZ hp) (.lst (.inr rfl) upd_same ((r1.append r2).mono x.toExt0)) (l.new hp (fun _ q => by cases q; rw [List.length_append]; exact hz') (fun _ q => by cases q) fun _ _ q => by cases q)
    · cases q
  · cases q

theorem Reps.repl {G : Gm} {W : Wd} {H : Hp} {ds : List D} {vs : List V} (r : Reps G W H ds vs) : ∀ n : Nat, Reps G W H (List.replicate n ds).flatten (List.replicate n vs).flatten
  | 0 => .nil
  | n + 1 => by
    rw [List.replicate_succ, List.flatten_cons, List.replicate_succ, List.flatten_cons]
    exact r.append (Reps.repl r n)
theorem small64_ok {a : Int} (h : small64 a = true) : -(2 ^ 64) < a ∧ a < 2 ^ 64 := by
  unfold small64 at h
  rw [Bool.and_eq_true] at h
  have h1 := of_decide_eq_true h.1
  have h2 := of_decide_eq_true h.2
  omega
theorem of_mul : OpF X ct (binaryOp .Mult) gMul := by
  refine ⟨_, op_mul.or (op_repT.or op_rep), fun W0 H0 W σ H E M d1 d2 v1 v2 d Q rel l s1 s2 q k => ?_⟩
  unfold gMul at q
  split at q
  · rename_i i j e1 e2
    split at q
    · rename_i c
      cases q
      refine .inl ⟨i, j, see_int rel s1 e1, see_int rel s2 e2, ?_, k W H _ Ext.refl rel.toCRel (.int _) l⟩
      rw [Bool.or_eq_true] at c
      exact c.imp small64_ok small64_ok
    · cases q
  · rename_i as j e1 e2
    split at q
    · rename_i hz
      cases q
      obtain ⟨p1, vs1, rfl, h1, r1, rfl⟩ := see_tup rel s1 e1
      obtain rfl := see_int rel s2 e2
      have hz' : vs1.length * j.toNat ≤ sizeLine := by rw [← r1.length]; exact hz.2
      have hb := hz.1
      unfold sizeMax at hb
      refine .inr (.inl ⟨p1, j, vs1, rfl, rfl, h1, by omega, by omega, hz', fun c => ?_, fun c p hp => ?_⟩)
      · refine k W H _ Ext.refl rel.toCRel ?_ l
        rcases c with c | c
        · subst c
          cases r1
          have : (List.replicate j.toNat ([] : List D)).flatten = [] := by
            induction j.toNat with
            | zero => rfl
            | succ n ih => rw [List.replicate_succ, List.flatten_cons, ih]; rfl
          rw [this]
          exact .tup h1 .nil
        · subst c
          have : (List.replicate (1 : Int).toNat as).flatten = as := by show (List.replicate 1 as).flatten = as; simp
          rw [this]
          exact .tup h1 r1
      · have x := Ext.new (o := .tup (List.replicate j.toNat vs1).flatten) rel.toCRel hp
        exact k W _ _ x (rel.toCRel.new hp) (.tup upd_same ((r1.repl _).mono x.toExt0)) (l.new hp (fun _ q => by cases q) (fun _ q => by cases q; rw [len_repl, Nat.mul_comm]; exact hz') fun _ _ q => by cases q)
    · cases q
  · rename_i as j e1 e2
    split at q
    · rename_i hz
      cases q
      obtain ⟨p1, vs1, rfl, h1, r1⟩ := see_lst rel s1 e1
      obtain rfl := see_int rel s2 e2
      have hz' : vs1.length * j.toNat ≤ sizeLine := by rw [← r1.length]; exact hz.2
      have hb := hz.1
      unfold sizeMax at hb
      refine .inr (.inr ⟨p1, j, vs1, rfl, rfl, h1, by omega, by omega, hz', fun p hp => ?_⟩)
      have x := Ext.newZ (o := .lst (List.replicate j.toNat vs1).flatten) rel.toCRel hp
      exact k _ _ _ x (rel.toCRel.newZ hp) (.lst (.inr rfl) upd_same ((r1.repl _).mono x.toExt0)) (l.new hp (fun _ q => by cases q; rw [len_repl, Nat.mul_comm]; exact hz') (fun _ q => by cases q) fun _ _ q => by cases q)
    · cases q
  · cases q

/-! ### is None -/
theorem rep_non {G : Gm} {W : Wd} {H : Hp} {d : D} {v : V} (r : Rep G W H d v) : decide (v = .non) = isNon d := by
  cases r <;> rfl
theorem seen_non {G : Gm} {W0 W : Wd} {H0 H : Hp} {σ : L2.St} {E : Env} {M : Mem} {d : D} {v : V} (r : Rel G W0 H0 W σ H E M) (s : Seen G W H σ E d v) : decide (v = .non) = isNon (view M d) := by
  rcases r.seen s with ⟨a, c, e, q, _⟩ | ⟨q, h⟩
  · subst e
    rw [q]
    cases c <;> rfl
  · rw [q]; exact rep_non h
theorem isN_eq {a b d : D} (h : (match b with | .non => gIsN a | _ => none) = some d) : b = .non ∧ d = .bl (isNon a) := by
  split at h
  · cases h; exact ⟨rfl, rfl⟩
  · cases h
end

/-! ### == of data -/
mutual
def toPy : D → PyData
  | .non => .none
  | .bl b => .bool b
  | .int i => .int i
  | .str x => .str x
  | .lst ds => .list (toPys ds)
  | .tup ds => .tuple (toPys ds)
  | _ => .none
def toPys : List D → List PyData
  | [] => []
  | d :: ds => toPy d :: toPys ds
end
section
variable {G : Gm} {W : Wd} {H : Hp}
mutual
theorem rep_dp : ∀ {n : Nat} {d : D} {v : V}, Rep G W H d v → flatD n d = true → Dp G.K H v (toPy d)
  | _, .non, _, .non, _ => .non
  | _, .bl _, _, .bl b, _ => .bl b
  | _, .int _, _, .int b, _ => .int b
  | _, .str _, _, .str b, _ => .str b
  | n + 1, .tup _, _, .tup h r, f => .tup (.of h) (reps_dp r (by simpa [flatD] using f))
  | n + 1, .lst _, _, .lst z h r, f => .lst (.of h) (reps_dp r (by simpa [flatD] using f))
theorem reps_dp : ∀ {n : Nat} {ds : List D} {vs : List V}, Reps G W H ds vs → flatDs n ds = true → DpAll G.K H vs (toPys ds)
  | _, [], _, .nil, _ => .nil
  | n, _ :: _, _, .cons h t, f => by
    rw [flatDs, Bool.and_eq_true] at f
    exact .cons (rep_dp h f.1) (reps_dp t f.2)
end
end
mutual
theorem flat_can : ∀ {n : Nat} {d : D}, flatD n d = true → (toPy d).canLay0 = true ∧ (toPy d).depth ≤ n
  | _, .non, _ => ⟨rfl, Nat.zero_le _⟩
  | _, .bl _, _ => ⟨rfl, Nat.zero_le _⟩
  | _, .int _, _ => ⟨rfl, Nat.zero_le _⟩
  | 0, .str x, f => ⟨by unfold flatD at f; exact f, Nat.zero_le _⟩
  | n + 1, .str x, f => ⟨by unfold flatD at f; exact f, Nat.zero_le _⟩
  | n + 1, .tup ds, f => by
    obtain ⟨h1, h2⟩ := flats_can (n := n) (ds := ds) (by simpa [flatD] using f)
    exact ⟨h1, Nat.succ_le_succ h2⟩
  | n + 1, .lst ds, f => by
    obtain ⟨h1, h2⟩ := flats_can (n := n) (ds := ds) (by simpa [flatD] using f)
    exact ⟨h1, Nat.succ_le_succ h2⟩
theorem flats_can : ∀ {n : Nat} {ds : List D}, flatDs n ds = true → PyData.canLayAll0 (toPys ds) = true ∧ PyData.depthAll (toPys ds) ≤ n
  | _, [], _ => ⟨rfl, Nat.zero_le _⟩
  | n, d :: ds, f => by
    rw [flatDs, Bool.and_eq_true] at f
    obtain ⟨h1, h2⟩ := flat_can f.1
    obtain ⟨h3, h4⟩ := flats_can f.2
    exact ⟨by show (_ && _) = true; rw [h1, h3]; rfl, Nat.max_le.mpr ⟨h2, h4⟩⟩
end
theorem flat_shaped {d : D} (f : flatD 64 d = true) : SeqAt.shaped (toPy d) = true := by
  obtain ⟨h1, h2⟩ := flat_can f
  unfold SeqAt.shaped
  rw [h1, decide_eq_true h2]
  rfl
mutual
theorem eqv_eqD : ∀ {n m : Nat} {a b : D}, flatD n a = true → flatD m b = true → PyData.eqv (toPy a) (toPy b) = eqD a b
  | n, m, a, b, fa, fb => by
    cases a with
    | tup as =>
      cases n with
      | zero => cases fa
      | succ n =>
        cases b with
        | tup bs =>
          cases m with
          | zero => cases fb
          | succ m => exact eqvs_eqDs (n := n) (m := m) (by simpa [flatD] using fa) (by simpa [flatD] using fb)
        | lst bs => cases m <;> rfl
        | non => rfl
        | bl _ => rfl
        | int _ => rfl
        | str _ => rfl
        | _ => cases m <;> cases fb
    | lst as =>
      cases n with
      | zero => cases fa
      | succ n =>
        cases b with
        | lst bs =>
          cases m with
          | zero => cases fb
          | succ m => exact eqvs_eqDs (n := n) (m := m) (by simpa [flatD] using fa) (by simpa [flatD] using fb)
        | tup bs => cases m <;> rfl
        | non => rfl
        | bl _ => rfl
        | int _ => rfl
        | str _ => rfl
        | _ => cases m <;> cases fb
    | non => cases b <;> first | rfl | (cases m <;> cases fb)
    | bl _ => cases b <;> first | rfl | (cases m <;> cases fb)
    | int _ => cases b <;> first | rfl | (cases m <;> cases fb)
    | str _ => cases b <;> first | rfl | (cases m <;> cases fb)
    | _ => cases n <;> cases fa
theorem eqvs_eqDs : ∀ {n m : Nat} {as bs : List D}, flatDs n as = true → flatDs m bs = true → PyData.eqvAll (toPys as) (toPys bs) = eqDs as bs
  | _, _, [], [], _, _ => rfl
  | _, _, [], _ :: _, _, _ => rfl
  | _, _, _ :: _, [], _, _ => rfl
  | n, m, a :: as, b :: bs, fa, fb => by
    rw [flatDs, Bool.and_eq_true] at fa fb
    show (PyData.eqv (toPy a) (toPy b) && PyData.eqvAll (toPys as) (toPys bs)) = (eqD a b && eqDs as bs)
    rw [eqv_eqD fa.1 fb.1, eqvs_eqDs fa.2 fb.2]
end

section
variable {X : Cx} {ct : List (Str × List Str)} {Wx : WX} {e a b : Expr} {es : List Expr} {f f1 f2 f3 : CE} {g : CA} {t t1 t2 : CT} {pos : Pos}
theorem view_flat {G : Gm} {W0 W : Wd} {H0 H : Hp} {σ : L2.St} {E : Env} {M : Mem} {d : D} {v : V} (r : Rel G W0 H0 W σ H E M) (s : Seen G W H σ E d v) (f : flatD 64 (view M d) = true) : Dp G.K H v (toPy (view M d)) := by
  rcases r.seen s with ⟨a, c, ev, q, h⟩ | ⟨q, h⟩
  · rw [q] at f ⊢
    subst ev
    cases c with
    | lst ds =>
      obtain ⟨vs, h1, h2⟩ := h
      exact .lst (.of h1) (reps_dp (n := 63) h2 (by simpa [flatD] using f))
    | _ => cases f
  · rw [q] at f ⊢
    exact rep_dp h f
theorem of_eq (hu : X.A.units + 64 < cLine) : OpF X ct (compareOp .Eq) gEq := by
  refine ⟨_, op_eq.or (op_eqD hu), fun W0 H0 W σ H E M d1 d2 v1 v2 d Q rel l s1 s2 q k => ?_⟩
  unfold gEq at q
  split at q
  · rename_i i j e1 e2
    cases q
    obtain rfl := see_int rel s1 e1
    obtain rfl := see_int rel s2 e2
    refine .inl ⟨rfl, k W H _ Ext.refl rel.toCRel ?_ l⟩
    rw [dec_int, Bool.beq_eq_decide_eq]
    exact .bl _
  · rename_i i j e1 e2
    cases q
    obtain rfl := see_str rel s1 e1
    obtain rfl := see_str rel s2 e2
    refine .inl ⟨rfl, k W H _ Ext.refl rel.toCRel ?_ l⟩
    have : decide (V.str i = V.str j) = decide (i = j) := by simp
    rw [this]
    exact .bl _
  · split at q
    · rename_i c
      rw [Bool.and_eq_true] at c
      cases q
      refine .inr ⟨_, _, view_flat rel s1 c.1, view_flat rel s2 c.2, flat_shaped c.1, flat_shaped c.2, k W H _ Ext.refl rel.toCRel ?_ l⟩
      rw [eqv_eqD c.1 c.2]
      exact .bl _
    · cases q
theorem of_ne (hu : X.A.units + 64 < cLine) : OpF X ct (compareOp .NotEq) gNe := by
  refine ⟨_, op_ne.or (op_neD hu), fun W0 H0 W σ H E M d1 d2 v1 v2 d Q rel l s1 s2 q k => ?_⟩
  unfold gNe at q
  split at q
  · rename_i i j e1 e2
    cases q
    obtain rfl := see_int rel s1 e1
    obtain rfl := see_int rel s2 e2
    refine .inl ⟨rfl, k W H _ Ext.refl rel.toCRel ?_ l⟩
    rw [dec_int, Bool.beq_eq_decide_eq]
    exact .bl _
  · rename_i i j e1 e2
    cases q
    obtain rfl := see_str rel s1 e1
    obtain rfl := see_str rel s2 e2
    refine .inl ⟨rfl, k W H _ Ext.refl rel.toCRel ?_ l⟩
    have : decide (V.str i = V.str j) = decide (i = j) := by simp
    rw [this]
    exact .bl _
  · split at q
    · rename_i c
      rw [Bool.and_eq_true] at c
      cases q
      refine .inr ⟨_, _, view_flat rel s1 c.1, view_flat rel s2 c.2, flat_shaped c.1, flat_shaped c.2, k W H _ Ext.refl rel.toCRel ?_ l⟩
      rw [eqv_eqD c.1 c.2]
      exact .bl _
    · cases q

/-! ### in -/
theorem flat1_v {G : Gm} {W0 W : Wd} {H0 H : Hp} {σ : L2.St} {E : Env} {M : Mem} {d : D} {v : V} (r : Rel G W0 H0 W σ H E M) (s : Seen G W H σ E d v) (f : flat1 (view M d) = true) : flatV v = true ∧ Rep G W H (view M d) v := by
  rcases r.seen s with ⟨a, c, ev, q, h⟩ | ⟨q, h⟩
  · rw [q] at f
    cases c <;> cases f
  · rw [q] at f ⊢
    exact ⟨by (cases h <;> first | rfl | cases f), h⟩
theorem rep_eqV {G : Gm} {W : Wd} {H : Hp} {a b : D} {u v : V} (ha : Rep G W H a u) (hb : Rep G W H b v) (fa : flat1 a = true) (fb : flat1 b = true) : eqV u v = eqD a b := by
  cases ha <;> first | (cases fa; done) | (cases hb <;> first | rfl | (cases fb; done))
theorem reps_any {G : Gm} {W : Wd} {H : Hp} {x : D} {v : V} (hx : Rep G W H x v) (fx : flat1 x = true) : ∀ {ds : List D} {vs : List V}, Reps G W H ds vs → ds.all flat1 = true → vs.all flatV = true ∧ inV v vs = ds.any fun y => eqD y x
  | [], _, .nil, _ => ⟨rfl, rfl⟩
  | d :: ds, _, .cons h t, f => by
    rw [List.all_cons, Bool.and_eq_true] at f
    obtain ⟨h1, h2⟩ := reps_any hx fx t f.2
    have h3 := rep_eqV h hx f.1 fx
    refine ⟨?_, ?_⟩
    · rw [List.all_cons, h1, Bool.and_true]
      (cases h <;> first | rfl | cases f.1)
    · show (_ || _) = _
      rw [List.any_cons, ← h3, ← h2]
      rfl
/-- x in d of a dict of ints and texts -/
theorem op_in_dict (hu : X.A.units + 1 < cLine) : OpR X (compareOp .In) (fun y x H Q => ∃ a o, x = .ref a ∧ DGet H a y o ∧ Q (.bl o.isSome) H) := by
  intro pins s σ H y x iv u Q I ry rx h
  obtain ⟨a, ov, ex, g, q2⟩ := h
  subst ex
  obtain rfl : u = Value.ref a := rx
  exact d_in hu I g ry fun s3 I3 => ⟨.bl ov.isSome, H, I3, rfl, q2⟩
theorem op_notIn_dict (hu : X.A.units + 1 < cLine) : OpR X (compareOp .NotIn) (fun y x H Q => ∃ a o, x = .ref a ∧ DGet H a y o ∧ Q (.bl (!o.isSome)) H) := by
  intro pins s σ H y x iv u Q I ry rx h
  obtain ⟨a, ov, ex, g, q2⟩ := h
  subst ex
  obtain rfl : u = Value.ref a := rx
  exact d_notIn hu I g ry fun s3 I3 => ⟨.bl (!ov.isSome), H, I3, rfl, q2⟩

theorem in_case {W0 W : Wd} {H0 H : Hp} {σ : L2.St} {E : Env} {M : Mem} {d1 d2 d : D} {v1 v2 : V} (rel : Rel (Gx X ct) W0 H0 W σ H E M) (s1 : Seen (Gx X ct) W H σ E d1 v1) (s2 : Seen (Gx X ct) W H σ E d2 v2) (q : gIn (view M d1) (view M d2) = some d) :
    ∃ b, d = .bl b ∧ ((∃ p xs, v2 = .ref p ∧ (SqL X.K H p xs ∨ SqT X.K H p xs) ∧ flatV v1 = true ∧ xs.all flatV = true ∧ inV v1 xs = b) ∨ (∃ a o, v2 = .ref a ∧ DGet H a v1 o ∧ o.isSome = b)) := by
  unfold gIn at q
  split at q
  · rename_i ds e2
    split at q
    · rename_i c
      rw [Bool.and_eq_true] at c
      cases q
      obtain ⟨p, vs, rfl, h, r, _⟩ := see_tup rel s2 e2
      obtain ⟨f1, r1⟩ := flat1_v rel s1 c.1
      obtain ⟨f2, e3⟩ := reps_any r1 c.1 r c.2
      exact ⟨_, rfl, .inl ⟨p, vs, rfl, .inr (.of h), f1, f2, e3⟩⟩
    · cases q
  · rename_i ds e2
    split at q
    · rename_i c
      rw [Bool.and_eq_true] at c
      cases q
      obtain ⟨p, vs, rfl, h, r⟩ := see_lst rel s2 e2
      obtain ⟨f1, r1⟩ := flat1_v rel s1 c.1
      obtain ⟨f2, e3⟩ := reps_any r1 c.1 r c.2
      exact ⟨_, rfl, .inl ⟨p, vs, rfl, .inl (.of h), f1, f2, e3⟩⟩
    · cases q
  · rename_i i kvs e1 e2
    cases q
    obtain ⟨a, vs, rfl, h, hk, r⟩ := see_dK rel s2 e2
    obtain rfl := see_int rel s1 e1
    refine ⟨_, rfl, .inr ⟨a, valV vs (.inl i), rfl, .inl ⟨vs, .inl i, h, rfl, rfl⟩, ?_⟩⟩
    rw [any_look]
    cases q : look kvs (Sum.inl i) with
    | none => rw [(reps_look hk r).2 q]; rfl
    | some d => obtain ⟨v, e, _⟩ := (reps_look hk r).1 q; rw [e]; rfl
  · rename_i i kvs e1 e2
    cases q
    obtain ⟨a, vs, rfl, h, hk, r⟩ := see_dK rel s2 e2
    obtain rfl := see_str rel s1 e1
    refine ⟨_, rfl, .inr ⟨a, valV vs (.inr i), rfl, .inl ⟨vs, .inr i, h, rfl, rfl⟩, ?_⟩⟩
    rw [any_look]
    cases q : look kvs (Sum.inr i) with
    | none => rw [(reps_look hk r).2 q]; rfl
    | some d => obtain ⟨v, e, _⟩ := (reps_look hk r).1 q; rw [e]; rfl
  · rename_i ds kvs e1 e2
    rw [Option.map_eq_some_iff] at q
    obtain ⟨ks, e3, rfl⟩ := q
    obtain ⟨a, vs, rfl, h, hk, r⟩ := see_dT rel s2 e2
    obtain ⟨p, us, rfl, h1, r1, _⟩ := see_tup rel s1 e1
    obtain rfl := reps_keys r1 e3
    refine ⟨_, rfl, .inr ⟨a, valV vs ks, rfl, .inr ⟨vs, ks, p, h, rfl, h1, rfl⟩, ?_⟩⟩
    rw [any_look]
    cases q : look kvs ks with
    | none => rw [(reps_look hk r).2 q]; rfl
    | some d => obtain ⟨v, e, _⟩ := (reps_look hk r).1 q; rw [e]; rfl
  · cases q
theorem of_in (hu : X.A.units + 1 < cLine) : OpF X ct (compareOp .In) gIn := by
  refine ⟨_, op_in_seq.or (op_in_dict hu), fun W0 H0 W σ H E M d1 d2 v1 v2 d Q rel l s1 s2 q k => ?_⟩
  obtain ⟨b, rfl, h | h⟩ := in_case rel s1 s2 q
  · obtain ⟨p, xs, rfl, h1, h2, h3, rfl⟩ := h
    exact .inl ⟨p, xs, rfl, h1, h2, h3, k W H _ Ext.refl rel.toCRel (.bl _) l⟩
  · obtain ⟨a, o, rfl, h1, rfl⟩ := h
    exact .inr ⟨a, o, rfl, h1, k W H _ Ext.refl rel.toCRel (.bl _) l⟩
theorem of_notIn (hu : X.A.units + 1 < cLine) : OpF X ct (compareOp .NotIn) gNotIn := by
  refine ⟨_, op_notIn_seq.or (op_notIn_dict hu), fun W0 H0 W σ H E M d1 d2 v1 v2 d Q rel l s1 s2 q k => ?_⟩
  unfold gNotIn at q
  rw [Option.bind_eq_some_iff] at q
  obtain ⟨d', q, q'⟩ := q
  obtain ⟨b, rfl, h | h⟩ := in_case rel s1 s2 q
  · obtain ⟨p, xs, rfl, h1, h2, h3, rfl⟩ := h
    cases q'
    exact .inl ⟨p, xs, rfl, h1, h2, h3, k W H _ Ext.refl rel.toCRel (.bl _) l⟩
  · obtain ⟨a, o, rfl, h1, rfl⟩ := h
    cases q'
    exact .inr ⟨a, o, rfl, h1, k W H _ Ext.refl rel.toCRel (.bl _) l⟩

/-! ### is None -/
theorem pf_un {r : V → Hp → VK → Prop} {gg : D → Option D} {e' : Expr} (hb : PE X e' (tUn r (tO (Gx X ct) Wx f)))
    (hr : ∀ W0 H0 W σ H E M d1 v1 d Q, Rel (Gx X ct) W0 H0 W σ H E M → LenOk H → Seen (Gx X ct) W H σ E d1 v1 → gg (view M d1) = some d →
      (∀ W' H' v, Ext W H W' H' → CRel (Gx X ct) W' H' M → Rep (Gx X ct) W' H' d v → LenOk H' → Q v H') → r v1 H Q) : PF X ct Wx e' (c1 gg f) := by
  refine PE.fin hb ?_
  rintro σ H Q l ⟨W0, H0, W, E, M, rel, p⟩
  refine ⟨W0, H0, W, E, M, rel, Post.bind p fun d1 M1 W1 H1 v1 _ x1 rel1 p1 l1 p => ?_⟩
  cases q : gg (view M1 d1) with
  | none => rw [q] at p; exact p.elim
  | some d =>
    rw [q] at p
    exact hr W0 H0 W1 σ H1 E M1 d1 v1 d _ rel1 l1 p1 q fun W' H' v x' c' r' l' l'' => p W' H' v x' (rel1.after x' c') r' l''
theorem PE.weak {e' : Expr} {t t' : TE} (h : PE X e' t) (hw : ∀ σ H Q, t' σ H Q → t σ H Q) : PE X e' t' := ⟨fun pins s σ H Q I q => h.run pins s σ H Q I (hw σ H Q q)⟩
theorem pf_isN {j pos'} (ha : POf X ct Wx a f) : PF X ct Wx (.Compare a [.Is] [.Constant .none j pos'] pos) (c1 gIsN f) := by
  refine pf_un (r := fun x H Q => Q (.bl (decide (x = .non))) H) (pe_cmp (pc_isN ha) rfl) fun W0 H0 W σ H E M d1 v1 d Q rel l s1 q k => ?_
  cases q
  rw [seen_non rel s1]
  exact k W H _ Ext.refl rel.toCRel (.bl _) l
theorem pf_notN {j pos'} (ha : POf X ct Wx a f) : PF X ct Wx (.Compare a [.IsNot] [.Constant .none j pos'] pos) (c1 gNotN f) := by
  refine pf_un (r := fun x H Q => Q (.bl (!decide (x = .non))) H) (pe_cmp (pc_notN ha) rfl) fun W0 H0 W σ H E M d1 v1 d Q rel l s1 q k => ?_
  cases q
  rw [seen_non rel s1]
  exact k W H _ Ext.refl rel.toCRel (.bl _) l
theorem pf_neg (ha : POf X ct Wx a f) : PF X ct Wx (.UnaryOp .USub a pos) (c1 gNeg f) := by
  refine pf_un (pe_un un_neg ha) fun W0 H0 W σ H E M d1 v1 d Q rel l s1 q k => ?_
  unfold gNeg at q
  split at q
  · rename_i i e
    cases q
    exact ⟨i, see_int rel s1 e, k W H _ Ext.refl rel.toCRel (.int _) l⟩
  · cases q

/-! ### tests -/
theorem pt_v {e' : Expr} {f : CE} (h : PF X ct Wx e' f) (he : ∀ whole, isTrue e' X.env whole = (do let v ← whole; standAt e'.pos; holding [v] (truthy v)) := by intro _; rfl) : PTf X ct Wx e' (tV f) := by
  refine PT.fin (pt_val h he) ?_
  rintro σ H Q l ⟨W0, H0, W, E, M, rel, p⟩
  refine ⟨W0, H0, W, E, M, rel, Post.bind p fun d1 M1 W1 H1 v1 _ x1 rel1 p1 l1 p => ?_⟩
  cases p1 with
  | bl k => exact ⟨k, rfl, fun l'' => p W1 H1 k Ext.refl rel1 rfl l1⟩
  | _ => exact p.elim
theorem pt_isN {j pos'} (ha : POf X ct Wx a f) : PTf X ct Wx (.Compare a [.Is] [.Constant .none j pos'] pos) (tV (c1 gIsN f)) := by
  refine PT.fin (pt_cmp (pc_isN ha) rfl) ?_
  rintro σ H Q l ⟨W0, H0, W, E, M, rel, p⟩
  refine ⟨W0, H0, W, E, M, rel, ?_⟩
  have p' : Post (Gx X ct) Wx RpB W0 H0 W H σ E ((f E M).bind fun d M => .ok (isNon (view M d)) M) Q := by
    dsimp only [tV, c1] at p
    cases h : f E M <;> rw [h] at p <;> exact p
  refine Post.bind p' fun d1 M1 W1 H1 v1 _ x1 rel1 p1 l1 p => ?_
  refine ⟨_, rfl, fun l'' => ?_⟩
  rw [seen_non rel1 p1]
  exact p W1 H1 _ Ext.refl rel1 rfl l1
theorem pt_notN {j pos'} (ha : POf X ct Wx a f) : PTf X ct Wx (.Compare a [.IsNot] [.Constant .none j pos'] pos) (tV (c1 gNotN f)) := by
  refine PT.fin (pt_cmp (pc_notN ha) rfl) ?_
  rintro σ H Q l ⟨W0, H0, W, E, M, rel, p⟩
  refine ⟨W0, H0, W, E, M, rel, ?_⟩
  have p' : Post (Gx X ct) Wx RpB W0 H0 W H σ E ((f E M).bind fun d M => .ok (!isNon (view M d)) M) Q := by
    dsimp only [tV, c1] at p
    cases h : f E M <;> rw [h] at p <;> exact p
  refine Post.bind p' fun d1 M1 W1 H1 v1 _ x1 rel1 p1 l1 p => ?_
  refine ⟨_, rfl, fun l'' => ?_⟩
  rw [seen_non rel1 p1]
  exact p W1 H1 _ Ext.refl rel1 rfl l1
theorem pt_not' (ha : PTf X ct Wx a t) : PTf X ct Wx (.UnaryOp .Not a pos) (tNot t) := by
  refine PT.fin (pt_not ha) ?_
  rintro σ H Q l ⟨W0, H0, W, E, M, rel, p⟩
  exact ⟨W0, H0, W, E, M, rel, Post.bind p fun d1 M1 W1 H1 v1 _ x1 rel1 p1 l1 p => by cases p1; exact fun l'' => p W1 H1 _ Ext.refl rel1 rfl l1⟩
theorem pw_and1' (ha : PTf X ct Wx a t) : PWf X ct Wx (.BoolOp .And [a] pos) t := pw_and1 ha
theorem pw_or1' (ha : PTf X ct Wx a t) : PWf X ct Wx (.BoolOp .Or [a] pos) t := pw_or1 ha
theorem pw_and' {rest : List Expr} (ha : PTf X ct Wx a t1) (hb : PWf X ct Wx (.BoolOp .And (b :: rest) pos) t2) : PWf X ct Wx (.BoolOp .And (a :: b :: rest) pos) (tAnd t1 t2) := by
  refine PW.fin (pw_and ha hb) ?_
  rintro σ H Q l ⟨W0, H0, W, E, M, rel, p⟩
  refine ⟨W0, H0, W, E, M, rel, Post.bind p fun d1 M1 W1 H1 v1 _ x1 rel1 p1 l1 p => ?_⟩
  cases p1
  cases d1 with
  | true =>
    refine iteT ⟨W0, H0, W1, E, M1, rel1, ?_⟩
    have p' : Post (Gx X ct) Wx RpB W0 H0 W1 H1 σ E (t2 E M1) Q := p
    cases h : t2 E M1 with
    | ok b M2 => rw [h] at p'; exact fun W' H' v x r p l _ => p' W' H' v x r p l
    | exc c ds M2 => rw [h] at p'; exact p'
    | bad => rw [h] at p'; exact p'
  | false => exact iteF fun l'' => p W1 H1 _ Ext.refl rel1 rfl l1
theorem pw_or' {rest : List Expr} (ha : PTf X ct Wx a t1) (hb : PWf X ct Wx (.BoolOp .Or (b :: rest) pos) t2) : PWf X ct Wx (.BoolOp .Or (a :: b :: rest) pos) (tOr t1 t2) := by
  refine PW.fin (pw_or ha hb) ?_
  rintro σ H Q l ⟨W0, H0, W, E, M, rel, p⟩
  refine ⟨W0, H0, W, E, M, rel, Post.bind p fun d1 M1 W1 H1 v1 _ x1 rel1 p1 l1 p => ?_⟩
  cases p1
  cases d1 with
  | false =>
    refine iteF ⟨W0, H0, W1, E, M1, rel1, ?_⟩
    have p' : Post (Gx X ct) Wx RpB W0 H0 W1 H1 σ E (t2 E M1) Q := p
    cases h : t2 E M1 with
    | ok b M2 => rw [h] at p'; exact fun W' H' v x r p l _ => p' W' H' v x r p l
    | exc c ds M2 => rw [h] at p'; exact p'
    | bad => rw [h] at p'; exact p'
  | true => exact iteT fun l'' => p W1 H1 _ Ext.refl rel1 rfl l1
end
end J
namespace J
open PySem PySem.Spec L2

/-! ### t[:], the whole -/
section
variable {prog : Program} {w : World} {A : Around} {E : Value → Shared → Prop} {s : Shared}
theorem getItem_tuple_whole {t sl : Addr} {items : Array Value} {vl vu : Value} {lo hi : Option Int} {Q : Value → Shared → Prop} (ht : PyProof.Rows.IsTup s.heap t items) (hs : s.heap.IsSliceOf sl vl vu .none) (pl : IsPart vl lo) (pu : IsPart vu hi)
    (hw : HT.sIx items.size 0 lo = 0 ∧ HT.sIx items.size items.size hi = items.size) (h : Q (.ref t) s) : wpAny (model prog w) A (getItem (.ref t) (.ref sl)) Q E s := by
  obtain ⟨os, hos, hcs, hds⟩ := id hs
  have hTs : s.TypeIs (.ref sl) "slice" := ⟨os, hos, hcs⟩
  unfold getItem
  try with_reducible refine wpAny_holding ?_
  first | refine wpAny_bind (wpAny_pure ?_) | skip
  refine wpAny_bind (wpAny_sequenceKey ht.typeIs (by decide) ?_)
  refine wpAny_bind (wpAny_callSpecial?_slot (name := Str.ofString "__getitem__") ht.typeIs PyProof.Rows.slot_tuple_getitem
    (wpAny_call_entry PyProof.Rows.slot_tuple_getitem ht.typeIs PyProof.Rows.entry_tuple_getitem ?_ (PyProof.Rows.args_tuple_getitem _ _)))
  show wpAny _ _ (Builtin.Tuple.tupleItemsOf (.ref t) >>= _) _ _ s
  refine wpAny_bind (PyProof.Rows.tupleItemsOf_ ht ?_)
  refine wpAny_bind (wpAny_typeOf hTs ?_)
  rw [if_pos (by decide)]
  refine wpAny_bind (HT.sliceApplied_gen hs pl pu ?_)
  show wpAny _ _ (if (((HT.sIx items.size 0 lo : Nat) : Int) == 0 && (1 : Int) == 1 && (HT.sIx items.size items.size hi - HT.sIx items.size 0 lo) == items.size) = true then _ else _) _ _ s
  rw [if_pos (by rw [hw.1, hw.2]; simp)]
  refine wpAny_bind (m := Builtin.Tuple.tupleIsExact _) ?_
  unfold Builtin.Tuple.tupleIsExact
  refine wpAny_bind (wpAny_typeOf ht.typeIs (wpAny_pure ?_))
  rw [if_pos (by decide)]
  exact wpAny_bind (wpAny_rule (wpAny_pure ⟨_, rfl, wpAny_pure h⟩))
end

section
variable {X : Cx} {ct : List (Str × List Str)} {Wx : WX} {e a b : Expr} {es : List Expr} {f f1 f2 f3 : CE} {g : CA} {t t1 t2 : CT} {pos p2 : Pos} {lo hi : Option Expr}

/-! ### slices -/
abbrev RpO : Wd → Hp → Option Int → Option Int → Prop := fun _ _ b c => b = c
def tOf (G : Gm) (Wx : WX) (f : CO) : L2.TO := fun σ H Q => ∃ W0 H0 W E M, Rel G W0 H0 W σ H E M ∧ Post G Wx RpO W0 H0 W H σ E (f E M) Q
abbrev PPart (X : Cx) (ct : List (Str × List Str)) (Wx : WX) (eo : Option Expr) (f : CO) : Prop := L2.PO X eo (tOf (Gx X ct) Wx f)
theorem PO_fin {X : Cx} {e : Option Expr} {t t' : L2.TO} (h : L2.PO X e t) (hw : ∀ σ H Q, LenOk H → t' σ H Q → t σ H (fun v H' => LenOk H' → Q v H')) : L2.PO X e t' :=
  ⟨fun pins s σ H Q I q => thn (h.run pins s σ H _ I (hw σ H Q (lenOk_of I) q)) fun _ _ ⟨o, H', I', r, q'⟩ => ⟨o, H', I', r, q' (lenOk_of I')⟩⟩
theorem part_none : PPart X ct Wx none oNone := by
  refine PO_fin L2.po_none ?_
  rintro σ H Q l ⟨W0, H0, W, E, M, rel, p⟩
  exact fun l' => p W H none Ext.refl rel rfl l'
theorem part_some (h : PF X ct Wx e f) : PPart X ct Wx (some e) (oSome f) := by
  refine PO_fin (L2.po_some h) ?_
  rintro σ H Q l ⟨W0, H0, W, E, M, rel, p⟩
  refine ⟨W0, H0, W, E, M, rel, Post.bind p fun d1 M1 W1 H1 v1 _ x1 rel1 p1 l1 p => ?_⟩
  cases p1 with
  | int i => exact ⟨i, rfl, fun l'' => p W1 H1 _ Ext.refl rel1 rfl l1⟩
  | _ => exact p.elim

theorem sIx_eq (n d : Nat) (o : Option Int) : J.sIx n d o = HT.sIx n d o := by cases o <;> rfl
theorem cut_eq {G : Gm} {W : Wd} {H : Hp} {ds : List D} {vs : List V} (r : Reps G W H ds vs) (lo hi : Option Int) : Reps G W H (cutD ds lo hi) (cutV vs lo hi) := by
  unfold cutD cutV
  rw [sIx_eq, sIx_eq, r.length]
  exact (r.drop _).take _
def rSlTw : V → Option Int → Option Int → Hp → VK → Prop := fun x lo hi H Q => ∃ a xs, x = .ref a ∧ H a = some (.tup xs) ∧ (HT.sIx xs.length 0 lo = 0 ∧ HT.sIx xs.length xs.length hi = xs.length) ∧ Q (.ref a) H
theorem sl_tupW : SlR X rSlTw := by
  intro pins s σ H x v vl vu lo hi sl Q I rx hs pl pu h
  obtain ⟨a, xs, rfl, hx, hw, q⟩ := h
  cases rx
  obtain ⟨hz, its, r, ht⟩ := (show ObjOk X.prog X.w H s.heap a (.tup xs) from I.hok a _ hx)
  have hlen : its.toArray.size = xs.length := by rw [List.size_toArray]; exact r.length.symm
  refine ⟨"tuple", _, PyProof.Rows.slot_tuple_getitem.lookup, ht.typeIs, ?_⟩
  exact getItem_tuple_whole ht hs pl pu (by rw [hlen]; exact hw) ⟨.ref a, H, I, rfl, q⟩
theorem pf_sl {o1 o2 : CO} (ha : POf X ct Wx a f) (hl : PPart X ct Wx lo o1) (hu : PPart X ct Wx hi o2) : PF X ct Wx (.Subscript a (.Slice lo hi none p2) pos) (cSl f o1 o2) := by
  refine PE.fin (pe_slice (sl_tup.or (sl_tupW.or sl_list)) ha hl hu) ?_
  rintro σ H Q l ⟨W0, H0, W, E, M, rel, p⟩
  refine ⟨W0, H0, W, E, M, rel, Post.bind p fun d1 M1 W1 H1 v1 _ x1 rel1 p1 l1 p => ?_⟩
  refine ⟨W0, H0, W1, E, M1, rel1, Post.bind p fun o1 M2 W2 H2 o1' _ x2 rel2 p2 l2 p => ?_⟩
  refine ⟨W0, H0, W2, E, M2, rel2, Post.bind p fun o2 M3 W3 H3 o2' _ x3 rel3 p3 l3 p => ?_⟩
  cases p2
  cases p3
  have s1 := (p1.mono x2.toExt0).mono x3.toExt0
  cases q : gSl (view M3 d1) o1 o2 with
  | none => rw [q] at p; exact p.elim
  | some d =>
    rw [q] at p
    unfold gSl at q
    split at q
    · rename_i ds e1
      cases q
      obtain ⟨pa, vs, rfl, h, r, _⟩ := see_tup rel3 s1 e1
      have rc := cut_eq r o1 o2
      by_cases c : HT.sIx vs.length 0 o1 = 0 ∧ HT.sIx vs.length vs.length o2 = vs.length
      · refine .inr (.inl ⟨pa, vs, rfl, h, c, fun l'' => p W3 H3 _ Ext.refl rel3 (.tup h ?_) l3⟩)
        have : cutV vs o1 o2 = vs := by
          unfold cutV
          rw [c.1, c.2]
          simp
        rw [this] at rc
        exact rc
      · refine .inl ⟨pa, vs, rfl, .of h, c, fun z hz l'' => ?_⟩
        have x := Ext.new (o := .tup (cutV vs o1 o2)) rel3.toCRel hz
        exact p W3 _ _ x (rel3.after x (rel3.toCRel.new hz)) (.tup upd_same (rc.mono x.toExt0)) l''
    · rename_i ds e1
      cases q
      obtain ⟨pa, vs, rfl, h, r⟩ := see_lst rel3 s1 e1
      refine .inr (.inr ⟨pa, vs, rfl, .of h, fun z hz l'' => ?_⟩)
      have x := Ext.newZ (o := .lst (cutV vs o1 o2)) rel3.toCRel hz
      exact p _ _ _ x (rel3.after x (rel3.toCRel.newZ hz)) (.lst (.inr rfl) upd_same ((cut_eq r o1 o2).mono x.toExt0)) l''
    · rename_i ds e1
      cases q
      obtain ⟨pa, vs, rfl, h, r⟩ := see_scr rel3 s1 e1
      refine .inr (.inr ⟨pa, vs, rfl, h, fun z hz l'' => ?_⟩)
      have x := Ext.newZ (o := .lst (cutV vs o1 o2)) rel3.toCRel hz
      exact p _ _ _ x (rel3.after x (rel3.toCRel.newZ hz)) (.lst (.inr rfl) upd_same ((cut_eq r o1 o2).mono x.toExt0)) l''
    · cases q

/-! ### subscripts -/
theorem ixN_eq (n : Nat) (i : Int) : J.ixN n i = L2.ixN n i := rfl
theorem ix_dict (hu : X.A.units + 1 < cLine) : IxR X (fun x y H Q => ∃ a v, x = .ref a ∧ DGet H a y (some v) ∧ Q v H) := by
  intro value slice pins s σ H x y v u Q I rx ry h hs
  obtain ⟨a, z, rfl, g, q⟩ := h
  cases rx
  exact PyProof.Rows.tail_any (dict_typeIs I g) PySem.F.slot_dict_getitem.lookup (d_getItem hu I g ry fun w' s3 I3 rw' => ⟨z, H, I3, rw', q⟩) hs
theorem pf_ix (hu : X.A.units + 1 < cLine) (ha : POf X ct Wx a f1) (hb : POf X ct Wx b f2) (hs : PlainIx b := by intro _ _; rfl) : PF X ct Wx (.Subscript a b pos) (c2 gIx f1 f2) := by
  refine pf_op2 (pe_ix (ix_list.or (ix_tup.or (ix_dict hu))) ha hb hs) fun W0 H0 W σ H E M d1 d2 v1 v2 d Q rel l s1 s2 q k => ?_
  unfold gIx at q
  split at q
  · rename_i ds i e1 e2
    obtain ⟨p1, vs, rfl, h, r, _⟩ := see_tup rel s1 e1
    rw [Option.bind_eq_some_iff] at q
    obtain ⟨j, q1, q2⟩ := q
    obtain ⟨v, h1, h2⟩ := r.get q2
    rw [r.length] at q1
    refine .inr (.inl ⟨p1, vs, i, v, rfl, see_int rel s2 e2, .of h, ?_, k W H v Ext.refl rel.toCRel h2 l⟩)
    unfold L2.atI
    rw [← ixN_eq, q1]
    exact h1
  · rename_i ds i e1 e2
    obtain ⟨p1, vs, rfl, h, r⟩ := see_lst rel s1 e1
    rw [Option.bind_eq_some_iff] at q
    obtain ⟨j, q1, q2⟩ := q
    obtain ⟨v, h1, h2⟩ := r.get q2
    rw [r.length] at q1
    refine .inl ⟨p1, vs, i, v, rfl, see_int rel s2 e2, .of h, ?_, k W H v Ext.refl rel.toCRel h2 l⟩
    unfold L2.atI
    rw [← ixN_eq, q1]
    exact h1
  · rename_i kvs dk e1
    rw [Option.bind_eq_some_iff] at q
    obtain ⟨j, q1, q2⟩ := q
    obtain ⟨p1, vs, rfl, h, hk, r⟩ := see_dK rel s1 e1
    obtain ⟨v, h1, h2⟩ := (reps_look hk r).1 q2
    refine .inr (.inr ⟨p1, v, rfl, .inl ⟨vs, j, h, ?_, h1.symm⟩, k W H v Ext.refl rel.toCRel h2 l⟩)
    generalize e2 : view M d2 = dk2 at q1
    cases dk2 with
    | int i => cases q1; exact see_int rel s2 e2
    | str i => cases q1; exact see_str rel s2 e2
    | _ => cases q1
  · rename_i kvs ds e1 e2
    rw [Option.bind_eq_some_iff] at q
    obtain ⟨ks, q1, q2⟩ := q
    obtain ⟨p1, vs, rfl, h, hk, r⟩ := see_dT rel s1 e1
    obtain ⟨p2, us, rfl, h3, r3, _⟩ := see_tup rel s2 e2
    obtain rfl := reps_keys r3 q1
    obtain ⟨v, h1, h2⟩ := (reps_look hk r).1 q2
    exact .inr (.inr ⟨p1, v, rfl, .inr ⟨vs, ks, p2, h, rfl, h3, h1.symm⟩, k W H v Ext.refl rel.toCRel h2 l⟩)
  · cases q
end
end J
namespace J
open PySem PySem.Spec L2

section
variable {X : Cx} {ct : List (Str × List Str)} {Wx : WX} {e a b c : Expr} {es : List Expr} {f f1 f2 f3 : CE} {g : CA} {t t1 t2 : CT} {pos p2 : Pos} {rest : List Expr}

theorem Post.pass {G : Gm} {W0 W : Wd} {H0 H : Hp} {σ : L2.St} {E : Env} {α β : Type} {Rp : Wd → Hp → α → β → Prop} {r : R α} {Q : β → Hp → Prop} (h : Post G Wx Rp W0 H0 W H σ E r Q) : Post G Wx Rp W0 H0 W H σ E r (fun v H' => LenOk H' → Q v H') := by
  cases r with
  | ok d M' => exact fun W' H' v x r p l _ => h W' H' v x r p l
  | exc c ds M' => exact h
  | bad => exact h

theorem pf_one {op} (ha : PF X ct Wx a f) : PF X ct Wx (.BoolOp op [a] pos) f := pe_one ha
theorem pf_and (ha : PF X ct Wx a f1) (hb : PF X ct Wx (.BoolOp .And (b :: rest) pos) f2) : PF X ct Wx (.BoolOp .And (a :: b :: rest) pos) (cAnd f1 f2) := by
  refine PE.fin (pe_and ha hb) ?_
  rintro σ H Q l ⟨W0, H0, W, E, M, rel, p⟩
  refine ⟨W0, H0, W, E, M, rel, Post.bind p fun d1 M1 W1 H1 v1 _ x1 rel1 p1 l1 p => ?_⟩
  cases p1 with
  | bl k =>
    refine ⟨k, rfl, ?_⟩
    cases k with
    | true => exact iteT ⟨W0, H0, W1, E, M1, rel1, Post.pass p⟩
    | false => exact iteF fun l'' => p W1 H1 _ Ext.refl rel1 (.bl _) l1
  | _ => exact p.elim
theorem pf_or (ha : PF X ct Wx a f1) (hb : PF X ct Wx (.BoolOp .Or (b :: rest) pos) f2) : PF X ct Wx (.BoolOp .Or (a :: b :: rest) pos) (cOr f1 f2) := by
  refine PE.fin (pe_or ha hb) ?_
  rintro σ H Q l ⟨W0, H0, W, E, M, rel, p⟩
  refine ⟨W0, H0, W, E, M, rel, Post.bind p fun d1 M1 W1 H1 v1 _ x1 rel1 p1 l1 p => ?_⟩
  cases p1 with
  | bl k =>
    refine ⟨k, rfl, ?_⟩
    cases k with
    | false => exact iteF ⟨W0, H0, W1, E, M1, rel1, Post.pass p⟩
    | true => exact iteT fun l'' => p W1 H1 _ Ext.refl rel1 (.bl _) l1
  | _ => exact p.elim
theorem pf_not (ha : PF X ct Wx a f) : PF X ct Wx (.UnaryOp .Not a pos) (cNot f) := by
  refine PE.fin (pe_not ha) ?_
  rintro σ H Q l ⟨W0, H0, W, E, M, rel, p⟩
  refine ⟨W0, H0, W, E, M, rel, Post.bind p fun d1 M1 W1 H1 v1 _ x1 rel1 p1 l1 p => ?_⟩
  cases p1 with
  | bl k => exact ⟨k, rfl, fun l'' => p W1 H1 _ Ext.refl rel1 (.bl _) l1⟩
  | _ => exact p.elim
theorem pf_if (hc : PTf X ct Wx c t) (ha : PF X ct Wx a f1) (hb : PF X ct Wx b f2) : PF X ct Wx (.IfExp c a b pos) (cIf t f1 f2) := by
  refine PE.fin (pe_ifExp hc ha hb) ?_
  rintro σ H Q l ⟨W0, H0, W, E, M, rel, p⟩
  refine ⟨W0, H0, W, E, M, rel, Post.bind p fun d1 M1 W1 H1 v1 _ x1 rel1 p1 l1 p => ?_⟩
  cases p1
  cases d1 with
  | true => exact iteT ⟨W0, H0, W1, E, M1, rel1, Post.pass p⟩
  | false => exact iteF ⟨W0, H0, W1, E, M1, rel1, Post.pass p⟩

/-! ### argument lists, displays -/
theorem paf_nil : PAf X ct Wx [] aNil := by
  refine PA.fin pa_nil ?_
  rintro σ H Q l ⟨W0, H0, W, E, M, rel, p⟩
  exact fun l' => p W H [] Ext.refl rel .nil l
theorem paf_cons (ha : PF X ct Wx e f) (hr : PAf X ct Wx es g) (hs : starEach (e :: es) X.env = (false, eval e X.env) :: starEach es X.env := by rfl) : PAf X ct Wx (e :: es) (aCons f g) := by
  refine PA.fin (pa_cons ha hr hs) ?_
  rintro σ H Q l ⟨W0, H0, W, E, M, rel, p⟩
  refine ⟨W0, H0, W, E, M, rel, Post.bind p fun d1 M1 W1 H1 v1 _ x1 rel1 p1 l1 p => ?_⟩
  refine ⟨W0, H0, W1, E, M1, rel1, Post.bind p fun d2 M2 W2 H2 v2 _ x2 rel2 p2 l2 p => ?_⟩
  exact fun l'' => p W2 H2 _ Ext.refl rel2 (.cons (p1.mono x2.toExt0) p2) l2
theorem pf_tup {x1} (h : PAf X ct Wx es g) : PF X ct Wx (.Tuple es x1 pos) (cTup g) := by
  refine PE.fin (pe_tup h) ?_
  rintro σ H Q l ⟨W0, H0, W, E, M, rel, p⟩
  refine ⟨W0, H0, W, E, M, rel, Post.bind p fun d1 M1 W1 H1 v1 _ x1 rel1 p1 l1 p => ?_⟩
  by_cases c : d1.length ≤ sizeMax
  · rw [if_pos c] at p
    have c' : v1.length ≤ sizeLine := by rw [← p1.length]; exact c
    refine ⟨c', fun z hz l'' => ?_⟩
    have x := Ext.new (o := .tup v1) rel1.toCRel hz
    exact p W1 _ _ x (rel1.after x (rel1.toCRel.new hz)) (.tup upd_same (p1.mono x.toExt0)) l''
  · rw [if_neg c] at p; exact p.elim
theorem pf_lst (h : PAf X ct Wx es g) : PF X ct Wx (.List es pos) (cLst g) := by
  refine PE.fin (pe_lst h) ?_
  rintro σ H Q l ⟨W0, H0, W, E, M, rel, p⟩
  refine ⟨W0, H0, W, E, M, rel, Post.bind p fun d1 M1 W1 H1 v1 _ x1 rel1 p1 l1 p => ?_⟩
  by_cases c : d1.length ≤ sizeMax
  · rw [if_pos c] at p
    have c' : v1.length ≤ sizeLine := by rw [← p1.length]; exact c
    refine ⟨c', fun z hz l'' => ?_⟩
    have x := Ext.newZ (o := .lst v1) rel1.toCRel hz
    exact p _ _ _ x (rel1.after x (rel1.toCRel.newZ hz)) (.lst (.inr rfl) upd_same (p1.mono x.toExt0)) l''
  · rw [if_neg c] at p; exact p.elim

/-! ### a < b < c -/
theorem pf_ch {op1 op2 : CmpOp} {g1 g2 : D → D → Option D} (h1 : OpF X ct (compareOp op1) g1) (h2 : OpF X ct (compareOp op2) g2) (ha : POf X ct Wx a f1) (hb : POf X ct Wx b f2) (hc : POf X ct Wx c f3)
    (hm : lastMarks [op1, op2] [b, c] = false := by with_unfolding_all rfl) : PF X ct Wx (.Compare a [op1, op2] [b, c] pos) (cCh g1 g2 f1 f2 f3) := by
  obtain ⟨r1, o1, k1⟩ := h1
  obtain ⟨r2, o2, k2⟩ := h2
  refine PE.fin (pe_chain o1 o2 ha hb hc hm) ?_
  rintro σ H Q l ⟨W0, H0, W, E, M, rel, p⟩
  refine ⟨W0, H0, W, E, M, rel, Post.bind p fun d1 M1 W1 H1 v1 _ x1 rel1 p1 l1 p => ?_⟩
  refine ⟨W0, H0, W1, E, M1, rel1, Post.bind p fun d2 M2 W2 H2 v2 _ x2 rel2 p2 l2 p => ?_⟩
  cases q : g1 (view M2 d1) (view M2 d2) with
  | none => rw [q] at p; exact p.elim
  | some d =>
    rw [q] at p
    refine k1 W0 H0 W2 σ H2 E M2 d1 d2 v1 v2 d _ rel2 l2 (p1.mono x2.toExt0) p2 q fun W3 H3 v3 x3 c3 r3 l3 => ?_
    have rel3 := rel2.after x3 c3
    cases r3 with
    | bl k =>
      refine ⟨k, rfl, ?_⟩
      cases k with
      | true =>
        refine iteT ⟨W0, H0, W3, E, M2, rel3, Post.bind (Post.step rel3 x3 p) fun d3 M4 W4 H4 v4 _ x4 rel4 p4 l4 p => ?_⟩
        cases q2 : g2 (view M4 d2) (view M4 d3) with
        | none => rw [q2] at p; exact p.elim
        | some d' =>
          rw [q2] at p
          exact k2 W0 H0 W4 σ H4 E M4 d2 d3 v2 v4 d' _ rel4 l4 ((p2.mono x3.toExt0).mono x4.toExt0) p4 q2 fun W' H' v x' c' r' l' l'' => p W' H' v x' (rel4.after x' c') r' l''
      | false => exact iteF fun l'' => (Post.step rel3 x3 p) W3 H3 _ Ext.refl rel3 (.bl _) l3
    | _ => exact p.elim
theorem pt_ch {op1 op2 : CmpOp} {g1 g2 : D → D → Option D} (h1 : OpF X ct (compareOp op1) g1) (h2 : OpF X ct (compareOp op2) g2) (ha : POf X ct Wx a f1) (hb : POf X ct Wx b f2) (hc : POf X ct Wx c f3)
    (hm : lastMarks [op1, op2] [b, c] = false := by with_unfolding_all rfl) : PTf X ct Wx (.Compare a [op1, op2] [b, c] pos) (tV (cCh g1 g2 f1 f2 f3)) := by
  obtain ⟨r1, o1, k1⟩ := h1
  obtain ⟨r2, o2, k2⟩ := h2
  refine PT.fin (pt_chain o1 o2 ha hb hc hm) ?_
  rintro σ H Q l ⟨W0, H0, W, E, M, rel, p⟩
  have e1 : ∀ {α : Type} {β γ : Type} (r : R α) (k : α → Mem → R β) (k2 : β → Mem → R γ), (r.bind k).bind k2 = r.bind fun d M => (k d M).bind k2 := fun r k k2 => by cases r <;> rfl
  dsimp only [tV, cCh] at p
  rw [e1] at p
  refine ⟨W0, H0, W, E, M, rel, Post.bind p fun d1 M1 W1 H1 v1 _ x1 rel1 p1 l1 p => ?_⟩
  rw [e1] at p
  refine ⟨W0, H0, W1, E, M1, rel1, Post.bind p fun d2 M2 W2 H2 v2 _ x2 rel2 p2 l2 p => ?_⟩
  cases q : g1 (view M2 d1) (view M2 d2) with
  | none => rw [q] at p; exact p.elim
  | some d =>
    rw [q] at p
    refine k1 W0 H0 W2 σ H2 E M2 d1 d2 v1 v2 d _ rel2 l2 (p1.mono x2.toExt0) p2 q fun W3 H3 v3 x3 c3 r3 l3 => ?_
    have rel3 := rel2.after x3 c3
    cases r3 with
    | bl k =>
      refine ⟨k, rfl, ?_⟩
      cases k with
      | true =>
        dsimp only at p
        rw [if_pos rfl, e1] at p
        refine iteT ⟨W0, H0, W3, E, M2, rel3, Post.bind (Post.step rel3 x3 p) fun d3 M4 W4 H4 v4 _ x4 rel4 p4 l4 p => ?_⟩
        cases q2 : g2 (view M4 d2) (view M4 d3) with
        | none => rw [q2] at p; exact p.elim
        | some d' =>
          rw [q2] at p
          refine k2 W0 H0 W4 σ H4 E M4 d2 d3 v2 v4 d' _ rel4 l4 ((p2.mono x3.toExt0).mono x4.toExt0) p4 q2 fun W' H' v x' c' r' l' => ?_
          cases r' with
          | bl k => exact ⟨k, rfl, fun l'' => p W' H' k x' (rel4.after x' c') rfl l'⟩
          | _ => exact p.elim
      | false => exact iteF ⟨false, rfl, fun l'' => (Post.step rel3 x3 p) W3 H3 _ Ext.refl rel3 rfl l3⟩
    | _ => exact p.elim

/-! ### attributes -/
/-- what is known of a class of the module: its number, name, address -/
structure ClsX (K : PySem.W.Frag) (mg : Str → Option Value) (ct : List (Str × List Str)) (n : Nat) : Prop where
  ex : ∃ nm ns C, ct[n]? = some (nm, ns) ∧ mg nm = some (.ref C) ∧ Cls K C ∧ ns.Nodup ∧ ns.length < 1000 ∧ ∀ f ∈ ns, NoAttr K C f
theorem lookup_at : ∀ {vs : List (Str × V)} {ns : List Str} {j : Nat} {f : Str} {v : V}, vs.map (·.1) = ns → ns.Nodup → ns[j]? = some f → (vs.map (·.2))[j]? = some v → vs.lookup f = some v
  | [], _, _, _, _, e, _, h, _ => by subst e; simp at h
  | p :: vs, [], _, _, _, e, _, h, _ => by cases e
  | (q, w) :: vs, n :: ns, 0, f, v, e, _, h, h2 => by
    injection e with e1 e2
    simp at h h2
    subst h h2
    have : q = n := e1
    subst this
    simp [List.lookup]
  | (q, w) :: vs, n :: ns, j + 1, f, v, e, nd, h, h2 => by
    injection e with e1 e2
    have e1 : q = n := e1
    subst e1
    have h : ns[j]? = some f := by simpa using h
    have h2 : (vs.map (·.2))[j]? = some v := by simpa using h2
    have ne : f ≠ q := fun z => (List.nodup_cons.mp nd).1 (by rw [← z]; exact List.mem_of_getElem? h)
    rw [List.lookup_cons]
    have : (f == q) = false := by simpa using ne
    rw [this]
    exact lookup_at e2 (List.nodup_cons.mp nd).2 h h2
theorem pf_fld (n j : Nat) {x : Str} (hC : ClsX X.K X.mg ct n) (ha : POf X ct Wx a f) (hj : (ct[n]?.bind fun p => p.2[j]?) = some x := by rfl) (hb : attributeBase a x X.env (eval a X.env) = eval a X.env := by rfl) : PF X ct Wx (.Attribute a x pos) (c1 (gFld n j) f) := by
  obtain ⟨nm, ns, C, h1, h2, cl, nd, _, no⟩ := hC.ex
  rw [h1] at hj
  have hj : ns[j]? = some x := hj
  refine pf_un (r := fun v1 H1 Q => ∃ a C dx fs v, v1 = .ref a ∧ H1 a = some (.ins C dx fs) ∧ Cls X.K C ∧ NoAttr X.K C x ∧ fs.lookup x = some v ∧ Q v H1) (pe_fld ha hb) fun W0 H0 W σ H E M d1 v1 d Q rel l s1 q k => ?_
  unfold gFld at q
  split at q
  · rename_i c' ds e1
    split at q
    · rename_i ec
      subst ec
      obtain ⟨nm', ns', p1, C', dx, vs, rfl, t1, t2, h, hk, r⟩ := see_obj rel s1 e1
      have t1 : ct[c']? = some (nm', ns') := t1
      rw [h1] at t1
      cases t1
      rw [show (Gx X ct).mg = X.mg from rfl, h2] at t2
      cases t2
      obtain ⟨v, g1, g2⟩ := r.get q
      have hlt : j < ds.length := (List.getElem?_eq_some_iff.mp q).1
      exact ⟨p1, C, dx, vs, v, rfl, h, cl, no x (List.mem_of_getElem? hj), lookup_at hk (nd.sublist (List.take_sublist _ _)) (by rw [List.getElem?_take_of_lt hlt]; exact hj) g1, k W H v Ext.refl rel.toCRel g2 l⟩
    · cases q
  · cases q

/-! ### calls of built-ins -/
theorem tO_arg {G : Gm} {Q : List V → Hp → Prop} {σ : L2.St} {H : Hp} (h : tO G Wx f σ H fun v H1 => Q [v] H1) : tCons (tO G Wx f) tNil σ H Q := h
/-- one argument, by its value -/
theorem pf_call1 {r : List V → Hp → VK → Prop} {gg : D → Option D} {e' : Expr} (hb : PE X e' (tCB r (tCons (tO (Gx X ct) Wx f) tNil)))
    (hr : ∀ W0 H0 W σ H E M d1 v1 d Q, Rel (Gx X ct) W0 H0 W σ H E M → LenOk H → Seen (Gx X ct) W H σ E d1 v1 → gg (view M d1) = some d →
      (∀ W' H' v, Ext W H W' H' → CRel (Gx X ct) W' H' M → Rep (Gx X ct) W' H' d v → LenOk H' → Q v H') → r [v1] H Q) : PF X ct Wx e' (c1 gg f) :=
  pf_un (r := fun v H Q => r [v] H Q) hb hr
theorem pf_call2 {r : List V → Hp → VK → Prop} {gg : D → D → Option D} {e' : Expr} (hb : PE X e' (tCB r (tCons (tO (Gx X ct) Wx f1) (tCons (tO (Gx X ct) Wx f2) tNil))))
    (hr : ∀ W0 H0 W σ H E M d1 d2 v1 v2 d Q, Rel (Gx X ct) W0 H0 W σ H E M → LenOk H → Seen (Gx X ct) W H σ E d1 v1 → Seen (Gx X ct) W H σ E d2 v2 → gg (view M d1) (view M d2) = some d →
      (∀ W' H' v, Ext W H W' H' → CRel (Gx X ct) W' H' M → Rep (Gx X ct) W' H' d v → LenOk H' → Q v H') → r [v1, v2] H Q) : PF X ct Wx e' (c2 gg f1 f2) :=
  pf_op2 (r := fun v1 v2 H Q => r [v1, v2] H Q) hb hr
/-- a built-in function by its values -/
def CallF1 (X : Cx) (ct : List (Str × List Str)) (fv : Value) (gg : D → Option D) : Prop :=
  ∃ r : List V → Hp → VK → Prop, CallR X fv r ∧ ∀ W0 H0 W σ H E M d1 v1 d Q, Rel (Gx X ct) W0 H0 W σ H E M → LenOk H → Seen (Gx X ct) W H σ E d1 v1 → gg (view M d1) = some d →
      (∀ W' H' v, Ext W H W' H' → CRel (Gx X ct) W' H' M → Rep (Gx X ct) W' H' d v → LenOk H' → Q v H') → r [v1] H Q
def CallF2 (X : Cx) (ct : List (Str × List Str)) (fv : Value) (gg : D → D → Option D) : Prop :=
  ∃ r : List V → Hp → VK → Prop, CallR X fv r ∧ ∀ W0 H0 W σ H E M d1 d2 v1 v2 d Q, Rel (Gx X ct) W0 H0 W σ H E M → LenOk H → Seen (Gx X ct) W H σ E d1 v1 → Seen (Gx X ct) W H σ E d2 v2 → gg (view M d1) (view M d2) = some d →
      (∀ W' H' v, Ext W H W' H' → CRel (Gx X ct) W' H' M → Rep (Gx X ct) W' H' d v → LenOk H' → Q v H') → r [v1, v2] H Q
variable {x : Str} {p : Pos}
theorem pf_b1 {id : String} {gg : D → Option D} (h : CallF1 X ct (.builtin id) gg) (hm : X.mg x = none) (hv : bootBuiltins x = some (.builtin id)) (ha : POf X ct Wx a f) (hg : Gl X x := by rfl) (hn : x ≠ "__name__" := by decide) (hdb : (x == ("__debug__" : Str)) = false := by decide)
    (he : starEach [a] X.env = (false, eval a X.env) :: starEach [] X.env := by rfl) : PF X ct Wx (.Call (.Name x p) [a] [] pos) (c1 gg f) := by
  obtain ⟨r, h1, h2⟩ := h
  exact pf_call1 (pe_callB h1 hg hm hv (pa_cons ha pa_nil he) hn hdb he rfl) h2
theorem pf_ty1 {id : String} {gg : D → Option D} (h : CallF1 X ct (.type id) gg) (hm : X.mg x = none) (hv : bootBuiltins x = some (.type id)) (ha : POf X ct Wx a f) (hg : Gl X x := by rfl) (hn : x ≠ "__name__" := by decide) (hdb : (x == ("__debug__" : Str)) = false := by decide)
    (he : starEach [a] X.env = (false, eval a X.env) :: starEach [] X.env := by rfl) : PF X ct Wx (.Call (.Name x p) [a] [] pos) (c1 gg f) := by
  obtain ⟨r, h1, h2⟩ := h
  exact pf_call1 (pe_callTy h1 hg hm hv (pa_cons ha pa_nil he) hn hdb he rfl) h2
theorem pf_b2 {id : String} {gg : D → D → Option D} (h : CallF2 X ct (.builtin id) gg) (hm : X.mg x = none) (hv : bootBuiltins x = some (.builtin id)) (ha : POf X ct Wx a f1) (hb : POf X ct Wx b f2) (hg : Gl X x := by rfl) (hn : x ≠ "__name__" := by decide) (hdb : (x == ("__debug__" : Str)) = false := by decide)
    (he : starEach [a, b] X.env = (false, eval a X.env) :: starEach [b] X.env := by rfl) (he2 : starEach [b] X.env = (false, eval b X.env) :: starEach [] X.env := by rfl) (hpl : (backTo pos (starEach [b] X.env)).any (·.1) = false := by rfl) : PF X ct Wx (.Call (.Name x p) [a, b] [] pos) (c2 gg f1 f2) := by
  obtain ⟨r, h1, h2⟩ := h
  exact pf_call2 (pe_callB h1 hg hm hv (pa_cons ha (pa_cons hb pa_nil he2) he) hn hdb he hpl) h2
end
end J
namespace JR
open PySem PySem.Spec PyProof.Rows L2

/-! ### sum, min, max over tuples of ints -/
section
variable {prog : Program} {w : World} {A : Around} {E : Value → Shared → Prop} {s : Shared} {l : Addr} {xs : Array (Int × Tok)} {its : List Value} {ns : List Int} {Q : Value → Shared → Prop}
theorem iter_intTup {Q : Value → Shared → Prop} (hl : s.heap.IsTuple l (intItems xs))
    (h : ∀ s₂, s₂ = { s with heap := s.heap.push { cls := .type "tuple_iterator", data := .fields #[.ref l, .int 0 0] } } → s₂.heap.IsTupleIter s.heap.objs.size l 0 ∧ s₂.heap.IsTuple l (intItems xs) → (∀ b ∈ [s.heap.objs.size, l], b < s₂.heap.objs.size) → l ≠ s.heap.objs.size → Q (.ref s.heap.objs.size) s₂) :
    wpAny (model prog w) A (pyIter (.ref l)) Q E s := by
  refine wpAny_pyIter_tuple hl ?_
  have lt : l < s.heap.objs.size := by obtain ⟨o, e, _⟩ := hl; exact Heap.lt_size e
  have hsz : (s.heap.push { cls := .type "tuple_iterator", data := .fields #[.ref l, .int 0 0] }).objs.size = s.heap.objs.size + 1 := Heap.size_push ..
  refine h _ rfl ⟨⟨_, Heap.get?_push_size _ rfl, rfl, rfl⟩, hl.at fun o e => Heap.get?_push_of_some _ e⟩ (fun b hb => ?_) (Nat.ne_of_lt lt)
  rw [hsz]
  rcases List.mem_cons.mp hb with e | hb
  · subst e; exact Nat.lt_succ_self _
  · rcases List.mem_cons.mp hb with e | hb
    · subst e; exact Nat.lt_succ_of_lt lt
    · cases hb
theorem sum_tup (hh : A.handled = none) (hl : IsTup s.heap l its.toArray) (hi : IntsAre its ns)
    (h : ∀ h' tk t', (∀ b o, s.heap.get? b = some o → h'.get? b = some o) → Q (.int ns.sum t') { s with heap := h', toks := tk }) : wpAny (model prog w) A (call (.builtin "sum") [.ref l]) Q E s := by
  obtain ⟨xs, e⟩ := hi.allInts.items
  have hn : numsOf (intItems xs).toList = ns := by rw [← e]; exact hi.numsOf
  rw [nums_intItems] at hn
  rw [e] at hl
  refine call_sum_walkG (iter_intTup hl fun s₂ e st hfp hlI => ?_)
  subst e
  refine ⟨_, _, _, _, _, _, numAt xs, rfl, Walks.tuple (A := A.in1) hh _ l hlI (intItems xs), st, hfp, (fun _ _ => intItems_at), fun h' tk t' hk => ?_⟩
  have := h h' tk t' (fun b o e => hk b o (fun z => by
    have : b = s.heap.objs.size := by simpa using z
    subst this
    exact absurd (Heap.lt_size e) (Nat.lt_irrefl _)) (Heap.get?_push_of_some _ e))
  have e2 : (intItems xs).size = xs.size := by simp [intItems]
  rw [e2, preSum_eq, List.take_of_length_le (by simp), hn]
  exact this
theorem max_tup (hh : A.handled = none) (hl : IsTup s.heap l its.toArray) (hi : IntsAre its ns) (hne : 0 < ns.length)
    (h : ∀ h' tk M t', (∀ b o, s.heap.get? b = some o → h'.get? b = some o) → M ∈ ns → (∀ a, a ∈ ns → a ≤ M) → Q (.int M t') { s with heap := h', toks := tk }) : wpAny (model prog w) A (call (.builtin "max") [.ref l]) Q E s := by
  obtain ⟨xs, e⟩ := hi.allInts.items
  have hn : numsOf (intItems xs).toList = ns := by rw [← e]; exact hi.numsOf
  rw [nums_intItems] at hn
  subst hn
  rw [e] at hl
  have hsz : 0 < xs.size := by simpa using hne
  refine call_max_walk (iter_intTup hl fun s₂ e st hfp hlI => ?_)
  subst e
  refine ⟨_, _, _, _, _, _, _, rfl, Walks.tuple (A := A.in1) hh _ l hlI (intItems xs), st, hfp, by simpa [intItems] using hsz, CmpOf.ints_gt (numAt xs) (fun _ _ => intItems_at), fun v h' tk hP hk => ?_⟩
  have hv : (intItems xs)[argBest (fun i j => decide (numAt xs i > numAt xs j)) (xs.size - 1)]? = some v := by simpa [intItems] using hP
  obtain ⟨t, rfl⟩ := intItems_at hv
  obtain ⟨h1, h2⟩ := argBest_gt (numAt xs) (xs.size - 1)
  refine h h' tk _ t (fun b o e => hk b o (fun z => by
    have : b = s.heap.objs.size := by simpa using z
    subst this
    exact absurd (Heap.lt_size e) (Nat.lt_irrefl _)) (Heap.get?_push_of_some _ e)) ?_ fun a ha => ?_
  · rw [numAt_eq]; exact PySem.getD_mem (by rw [List.length_map, Array.length_toList]; omega)
  · obtain ⟨j, hj, rfl⟩ := mem_getD ha
    rw [List.length_map, Array.length_toList] at hj
    rw [← numAt_eq]; exact h2 j (by omega)
theorem min_tup (hh : A.handled = none) (hl : IsTup s.heap l its.toArray) (hi : IntsAre its ns) (hne : 0 < ns.length)
    (h : ∀ h' tk M t', (∀ b o, s.heap.get? b = some o → h'.get? b = some o) → M ∈ ns → (∀ a, a ∈ ns → M ≤ a) → Q (.int M t') { s with heap := h', toks := tk }) : wpAny (model prog w) A (call (.builtin "min") [.ref l]) Q E s := by
  obtain ⟨xs, e⟩ := hi.allInts.items
  have hn : numsOf (intItems xs).toList = ns := by rw [← e]; exact hi.numsOf
  rw [nums_intItems] at hn
  subst hn
  rw [e] at hl
  have hsz : 0 < xs.size := by simpa using hne
  refine call_min_walk (iter_intTup hl fun s₂ e st hfp hlI => ?_)
  subst e
  refine ⟨_, _, _, _, _, _, _, rfl, Walks.tuple (A := A.in1) hh _ l hlI (intItems xs), st, hfp, by simpa [intItems] using hsz, CmpOf.ints_lt (numAt xs) (fun _ _ => intItems_at), fun v h' tk hP hk => ?_⟩
  have hv : (intItems xs)[argBest (fun i j => decide (numAt xs i < numAt xs j)) (xs.size - 1)]? = some v := by simpa [intItems] using hP
  obtain ⟨t, rfl⟩ := intItems_at hv
  obtain ⟨h1, h2⟩ := argBest_lt (numAt xs) (xs.size - 1)
  refine h h' tk _ t (fun b o e => hk b o (fun z => by
    have : b = s.heap.objs.size := by simpa using z
    subst this
    exact absurd (Heap.lt_size e) (Nat.lt_irrefl _)) (Heap.get?_push_of_some _ e)) ?_ fun a ha => ?_
  · rw [numAt_eq]; exact PySem.getD_mem (by rw [List.length_map, Array.length_toList]; omega)
  · obtain ⟨j, hj, rfl⟩ := mem_getD ha
    rw [List.length_map, Array.length_toList] at hj
    rw [← numAt_eq]; exact h2 j (by omega)
end

section
variable {X : Cx}
theorem cr_sumT (hc : X.calm = true) : CallR X (.builtin "sum") (fun vs H Q => ∃ (a : Addr) (ns : List Int), vs = [V.ref a] ∧ H a = some (.tup (ns.map V.int)) ∧ Q (.int ns.sum) H) := by
  intro pins s σ H vs us Q I r h
  obtain ⟨a, ns, rfl, hs, q⟩ := h
  obtain ⟨_, its, rv, hl⟩ := (show ObjOk X.prog X.w H s.heap a (.tup (ns.map V.int)) from I.hok a _ hs)
  rw [Vals.ref1 r]
  exact sum_tup (I.ok.hd hc) hl rv.ints fun h' tk t' hk => ⟨.int _, H, I.kept hk, ⟨_, rfl⟩, q⟩
theorem cr_maxT (hc : X.calm = true) : CallR X (.builtin "max") (fun vs H Q => ∃ (a : Addr) (ns : List Int), vs = [V.ref a] ∧ H a = some (.tup (ns.map V.int)) ∧ 0 < ns.length ∧ ∀ m, m ∈ ns → (∀ y, y ∈ ns → y ≤ m) → Q (.int m) H) := by
  intro pins s σ H vs us Q I r h
  obtain ⟨a, ns, rfl, hs, hne, q⟩ := h
  obtain ⟨_, its, rv, hl⟩ := (show ObjOk X.prog X.w H s.heap a (.tup (ns.map V.int)) from I.hok a _ hs)
  rw [Vals.ref1 r]
  exact max_tup (I.ok.hd hc) hl rv.ints hne fun h' tk m t' hk h1 h2 => ⟨.int _, H, I.kept hk, ⟨_, rfl⟩, q m h1 h2⟩
theorem cr_minT (hc : X.calm = true) : CallR X (.builtin "min") (fun vs H Q => ∃ (a : Addr) (ns : List Int), vs = [V.ref a] ∧ H a = some (.tup (ns.map V.int)) ∧ 0 < ns.length ∧ ∀ m, m ∈ ns → (∀ y, y ∈ ns → m ≤ y) → Q (.int m) H) := by
  intro pins s σ H vs us Q I r h
  obtain ⟨a, ns, rfl, hs, hne, q⟩ := h
  obtain ⟨_, its, rv, hl⟩ := (show ObjOk X.prog X.w H s.heap a (.tup (ns.map V.int)) from I.hok a _ hs)
  rw [Vals.ref1 r]
  exact min_tup (I.ok.hd hc) hl rv.ints hne fun h' tk m t' hk h1 h2 => ⟨.int _, H, I.kept hk, ⟨_, rfl⟩, q m h1 h2⟩
end
end JR

namespace J
open PySem PySem.Spec L2
section
variable {X : Cx} {ct : List (Str × List Str)}

theorem case_seq {d : D} {ds : List D} (h : seq d = some ds) : d = .lst ds ∨ d = .tup ds := by
  cases d with
  | lst _ => cases h; exact .inl rfl
  | tup _ => cases h; exact .inr rfl
  | _ => cases h
theorem call_lenR : CallR X (.builtin "len") (fun xs H Q => ∃ a kvs, xs = [V.ref a] ∧ Rd H a (.dK kvs) ∧ Q (.int kvs.length) H) := by
  intro pins s σ H xs us Q I r h
  obtain ⟨a, kvs, rfl, ha, q⟩ := h
  obtain ⟨u, rfl, ru⟩ := vals1 r
  cases ru
  exact d_len I ha fun t s' I' => ⟨.int kvs.length, H, I', ⟨_, rfl⟩, q⟩
theorem cf_len : CallF1 X ct (.builtin "len") gLen := by
  refine ⟨_, call_len_seq.or call_lenR, fun W0 H0 W σ H E M d1 v1 d Q rel l s1 q k => ?_⟩
  unfold gLen at q
  split at q
  · rename_i ds e
    cases q
    obtain ⟨a, vs, rfl, h, r⟩ := see_lst rel s1 e
    exact .inl ⟨a, vs, rfl, .inl (.of h), by rw [← r.length]; exact k W H _ Ext.refl rel.toCRel (.int _) l⟩
  · rename_i ds e
    cases q
    obtain ⟨a, vs, rfl, h, r, _⟩ := see_tup rel s1 e
    exact .inl ⟨a, vs, rfl, .inr (.of h), by rw [← r.length]; exact k W H _ Ext.refl rel.toCRel (.int _) l⟩
  · rename_i ds e
    cases q
    obtain ⟨a, vs, rfl, h, hk, r⟩ := see_dK rel s1 e
    have : vs.length = ds.length := by have := congrArg List.length hk; simpa using this
    exact .inr ⟨a, vs, rfl, h, by rw [this]; exact k W H _ Ext.refl rel.toCRel (.int _) l⟩
  · cases q
theorem cf_sum (hc : X.calm = true) : CallF1 X ct (.builtin "sum") gSum := by
  refine ⟨_, (cr_sum hc).or (JR.cr_sumT hc), fun W0 H0 W σ H E M d1 v1 d Q rel l s1 q k => ?_⟩
  unfold gSum at q
  rw [Option.bind_eq_some_iff] at q
  obtain ⟨ds, q1, q2⟩ := q
  rw [Option.map_eq_some_iff] at q2
  obtain ⟨ns, q2, rfl⟩ := q2
  rcases case_seq q1 with e | e
  · obtain ⟨a, vs, rfl, h, r⟩ := see_lst rel s1 e
    obtain rfl := reps_ints r q2
    exact .inl ⟨a, ns, rfl, .of h, k W H _ Ext.refl rel.toCRel (.int _) l⟩
  · obtain ⟨a, vs, rfl, h, r, _⟩ := see_tup rel s1 e
    obtain rfl := reps_ints r q2
    exact .inr ⟨a, ns, rfl, h, k W H _ Ext.refl rel.toCRel (.int _) l⟩
theorem foldl_min_le : ∀ (ns : List Int) (a : Int), ns.foldl min a ≤ a ∧ (∀ y ∈ ns, ns.foldl min a ≤ y) ∧ (ns.foldl min a = a ∨ ns.foldl min a ∈ ns)
  | [], a => ⟨Int.le_refl _, (fun _ h => nomatch h), .inl rfl⟩
  | n :: ns, a => by
    obtain ⟨h1, h2, h3⟩ := foldl_min_le ns (min a n)
    rw [List.foldl_cons]
    refine ⟨Int.le_trans h1 (Int.min_le_left _ _), fun y hy => ?_, ?_⟩
    · rcases List.mem_cons.mp hy with e | hy
      · subst e; exact Int.le_trans h1 (Int.min_le_right _ _)
      · exact h2 y hy
    · rcases h3 with h3 | h3
      · rcases Int.le_total a n with c | c
        · left; rw [h3, Int.min_eq_left c]
        · right; rw [h3, Int.min_eq_right c]; exact List.mem_cons_self
      · right; exact List.mem_cons_of_mem _ h3
theorem foldl_max_le : ∀ (ns : List Int) (a : Int), a ≤ ns.foldl max a ∧ (∀ y ∈ ns, y ≤ ns.foldl max a) ∧ (ns.foldl max a = a ∨ ns.foldl max a ∈ ns)
  | [], a => ⟨Int.le_refl _, (fun _ h => nomatch h), .inl rfl⟩
  | n :: ns, a => by
    obtain ⟨h1, h2, h3⟩ := foldl_max_le ns (max a n)
    rw [List.foldl_cons]
    refine ⟨Int.le_trans (Int.le_max_left _ _) h1, fun y hy => ?_, ?_⟩
    · rcases List.mem_cons.mp hy with e | hy
      · subst e; exact Int.le_trans (Int.le_max_right _ _) h1
      · exact h2 y hy
    · rcases h3 with h3 | h3
      · rcases Int.le_total a n with c | c
        · right; rw [h3, Int.max_eq_right c]; exact List.mem_cons_self
        · left; rw [h3, Int.max_eq_left c]
      · right; exact List.mem_cons_of_mem _ h3
theorem minL_eq {ns : List Int} {m m' : Int} (h : minL ns = some m) (h1 : m' ∈ ns) (h2 : ∀ y ∈ ns, m' ≤ y) : m' = m := by
  cases ns with
  | nil => cases h
  | cons n ns =>
    cases h
    obtain ⟨k1, k2, k3⟩ := foldl_min_le ns n
    refine Int.le_antisymm (h2 _ ?_) ?_
    · rcases k3 with k3 | k3
      · rw [k3]; exact List.mem_cons_self
      · exact List.mem_cons_of_mem _ k3
    · rcases List.mem_cons.mp h1 with e | h1
      · rw [e]; exact k1
      · exact k2 _ h1
theorem maxL_eq {ns : List Int} {m m' : Int} (h : maxL ns = some m) (h1 : m' ∈ ns) (h2 : ∀ y ∈ ns, y ≤ m') : m' = m := by
  cases ns with
  | nil => cases h
  | cons n ns =>
    cases h
    obtain ⟨k1, k2, k3⟩ := foldl_max_le ns n
    refine Int.le_antisymm ?_ (h2 _ ?_)
    · rcases List.mem_cons.mp h1 with e | h1
      · rw [e]; exact k1
      · exact k2 _ h1
    · rcases k3 with k3 | k3
      · rw [k3]; exact List.mem_cons_self
      · exact List.mem_cons_of_mem _ k3
theorem cf_min (hc : X.calm = true) : CallF1 X ct (.builtin "min") gMin := by
  refine ⟨_, (cr_min hc).or (JR.cr_minT hc), fun W0 H0 W σ H E M d1 v1 d Q rel l s1 q k => ?_⟩
  unfold gMin at q
  rw [Option.bind_eq_some_iff] at q
  obtain ⟨ds, q1, q2⟩ := q
  rw [Option.bind_eq_some_iff] at q2
  obtain ⟨ns, q2, q3⟩ := q2
  rw [Option.map_eq_some_iff] at q3
  obtain ⟨m, q3, rfl⟩ := q3
  have hne : 0 < ns.length := by cases ns with | nil => cases q3 | cons _ _ => exact Nat.succ_pos _
  have fin : ∀ m', m' ∈ ns → (∀ y, y ∈ ns → m' ≤ y) → Q (.int m') H := fun m' h1 h2 => by
    rw [minL_eq q3 h1 h2]
    exact k W H _ Ext.refl rel.toCRel (.int _) l
  rcases case_seq q1 with e | e
  · obtain ⟨a, vs, rfl, h, r⟩ := see_lst rel s1 e
    obtain rfl := reps_ints r q2
    exact .inl ⟨a, ns, rfl, .of h, hne, fin⟩
  · obtain ⟨a, vs, rfl, h, r, _⟩ := see_tup rel s1 e
    obtain rfl := reps_ints r q2
    exact .inr ⟨a, ns, rfl, h, hne, fin⟩
theorem cf_max (hc : X.calm = true) : CallF1 X ct (.builtin "max") gMax := by
  refine ⟨_, (cr_max hc).or (JR.cr_maxT hc), fun W0 H0 W σ H E M d1 v1 d Q rel l s1 q k => ?_⟩
  unfold gMax at q
  rw [Option.bind_eq_some_iff] at q
  obtain ⟨ds, q1, q2⟩ := q
  rw [Option.bind_eq_some_iff] at q2
  obtain ⟨ns, q2, q3⟩ := q2
  rw [Option.map_eq_some_iff] at q3
  obtain ⟨m, q3, rfl⟩ := q3
  have hne : 0 < ns.length := by cases ns with | nil => cases q3 | cons _ _ => exact Nat.succ_pos _
  have fin : ∀ m', m' ∈ ns → (∀ y, y ∈ ns → y ≤ m') → Q (.int m') H := fun m' h1 h2 => by
    rw [maxL_eq q3 h1 h2]
    exact k W H _ Ext.refl rel.toCRel (.int _) l
  rcases case_seq q1 with e | e
  · obtain ⟨a, vs, rfl, h, r⟩ := see_lst rel s1 e
    obtain rfl := reps_ints r q2
    exact .inl ⟨a, ns, rfl, .of h, hne, fin⟩
  · obtain ⟨a, vs, rfl, h, r, _⟩ := see_tup rel s1 e
    obtain rfl := reps_ints r q2
    exact .inr ⟨a, ns, rfl, h, hne, fin⟩
theorem cf_min2 (hc : X.calm = true) : CallF2 X ct (.builtin "min") gMin2 := by
  refine ⟨_, call_min2 hc, fun W0 H0 W σ H E M d1 d2 v1 v2 d Q rel l s1 s2 q k => ?_⟩
  unfold gMin2 at q
  split at q
  · rename_i i j e1 e2
    cases q
    obtain rfl := see_int rel s1 e1
    obtain rfl := see_int rel s2 e2
    refine ⟨i, j, rfl, ?_⟩
    have : (if j < i then j else i) = min i j := by rw [Int.min_def]; split <;> split <;> omega
    rw [this]
    exact k W H _ Ext.refl rel.toCRel (.int _) l
  · cases q
theorem cf_max2 (hc : X.calm = true) : CallF2 X ct (.builtin "max") gMax2 := by
  refine ⟨_, call_max2 hc, fun W0 H0 W σ H E M d1 d2 v1 v2 d Q rel l s1 s2 q k => ?_⟩
  unfold gMax2 at q
  split at q
  · rename_i i j e1 e2
    cases q
    obtain rfl := see_int rel s1 e1
    obtain rfl := see_int rel s2 e2
    refine ⟨i, j, rfl, ?_⟩
    have : (if j > i then j else i) = max i j := by rw [Int.max_def]; split <;> split <;> omega
    rw [this]
    exact k W H _ Ext.refl rel.toCRel (.int _) l
  · cases q
theorem cf_all (hc : X.calm = true) : CallF1 X ct (.builtin "all") gAll := by
  refine ⟨_, cr_all hc, fun W0 H0 W σ H E M d1 v1 d Q rel l s1 q k => ?_⟩
  unfold gAll at q
  split at q
  · rename_i ds e
    rw [Option.map_eq_some_iff] at q
    obtain ⟨bs, q, rfl⟩ := q
    obtain ⟨a, vs, rfl, h, r⟩ := see_lst rel s1 e
    obtain rfl := reps_bools r q
    exact ⟨a, bs, rfl, .of h, k W H _ Ext.refl rel.toCRel (.bl _) l⟩
  · cases q
theorem cf_any (hc : X.calm = true) : CallF1 X ct (.builtin "any") gAny := by
  refine ⟨_, cr_any hc, fun W0 H0 W σ H E M d1 v1 d Q rel l s1 q k => ?_⟩
  unfold gAny at q
  split at q
  · rename_i ds e
    rw [Option.map_eq_some_iff] at q
    obtain ⟨bs, q, rfl⟩ := q
    obtain ⟨a, vs, rfl, h, r⟩ := see_lst rel s1 e
    obtain rfl := reps_bools r q
    exact ⟨a, bs, rfl, .of h, k W H _ Ext.refl rel.toCRel (.bl _) l⟩
  · cases q
theorem cf_tuple : CallF1 X ct (.type "tuple") gTuple := by
  refine ⟨_, call_tuple_of, fun W0 H0 W σ H E M d1 v1 d Q rel l s1 q k => ?_⟩
  unfold gTuple at q
  rw [Option.map_eq_some_iff] at q
  obtain ⟨ds, q1, rfl⟩ := q
  rcases case_seq q1 with e | e
  · obtain ⟨a, vs, rfl, h, r⟩ := see_lst rel s1 e
    refine ⟨a, vs, rfl, .inl ⟨.of h, fun p hp => ?_⟩⟩
    have x := Ext.new (o := .tup vs) rel.toCRel hp
    exact k W _ _ x (rel.toCRel.new hp) (.tup upd_same (r.mono x.toExt0)) (l.new hp (fun _ q => by cases q) (fun _ q => by cases q; exact l.1 _ _ (.inl h)) fun _ _ q => by cases q)
  · obtain ⟨a, vs, rfl, h, r, _⟩ := see_tup rel s1 e
    exact ⟨a, vs, rfl, .inr ⟨.of h, k W H _ Ext.refl rel.toCRel (.tup h r) l⟩⟩
theorem cf_list : CallF1 X ct (.type "list") gList := by
  refine ⟨_, call_list_of, fun W0 H0 W σ H E M d1 v1 d Q rel l s1 q k => ?_⟩
  unfold gList at q
  rw [Option.map_eq_some_iff] at q
  obtain ⟨ds, q1, rfl⟩ := q
  rcases case_seq q1 with e | e
  · obtain ⟨a, vs, rfl, h, r⟩ := see_lst rel s1 e
    refine ⟨a, vs, rfl, .inl (.of h), fun p hp => ?_⟩
    have x := Ext.newZ (o := .lst vs) rel.toCRel hp
    exact k _ _ _ x (rel.toCRel.newZ hp) (.lst (.inr rfl) upd_same (r.mono x.toExt0)) (l.new hp (fun _ q => by cases q; exact l.1 _ _ (.inl h)) (fun _ q => by cases q) fun _ _ q => by cases q)
  · obtain ⟨a, vs, rfl, h, r, _⟩ := see_tup rel s1 e
    refine ⟨a, vs, rfl, .inr (.of h), fun p hp => ?_⟩
    have x := Ext.newZ (o := .lst vs) rel.toCRel hp
    exact k _ _ _ x (rel.toCRel.newZ hp) (.lst (.inr rfl) upd_same (r.mono x.toExt0)) (l.new hp (fun _ q => by cases q; exact l.2 _ _ h) (fun _ q => by cases q) fun _ _ q => by cases q)
theorem cf_abs : CallF1 X ct (.builtin "abs") gAbs := by
  refine ⟨_, call_abs, fun W0 H0 W σ H E M d1 v1 d Q rel l s1 q k => ?_⟩
  unfold gAbs at q
  split at q
  · rename_i i e
    cases q
    obtain rfl := see_int rel s1 e
    exact ⟨i, rfl, k W H _ Ext.refl rel.toCRel (.int _) l⟩
  · cases q
theorem cf_int : CallF1 X ct (.type "int") gInt := by
  refine ⟨_, call_int1, fun W0 H0 W σ H E M d1 v1 d Q rel l s1 q k => ?_⟩
  unfold gInt at q
  split at q
  · rename_i i e
    cases q
    obtain rfl := see_int rel s1 e
    exact .inl ⟨i, rfl, k W H _ Ext.refl rel.toCRel (.int _) l⟩
  · rename_i i e
    cases q
    obtain rfl := see_bl rel s1 e
    exact .inr ⟨i, rfl, by cases i <;> exact k W H _ Ext.refl rel.toCRel (.int _) l⟩
  · cases q
end
end J
namespace J
open PySem PySem.Spec L2

/-! ### isinstance -/
def tyNames : List String := ["NoneType", "bool", "int", "str", "tuple", "list", "dict"]
theorem kit_all : (tyNames.all fun a => tyNames.all fun b => kitB a b == some (subTy a b)) = true := by decide +kernel
theorem kit_at {a b : String} (ha : a ∈ tyNames) (hb : b ∈ tyNames) : kitB a b = some (subTy a b) := by
  have h := kit_all
  rw [List.all_eq_true] at h
  have h2 := h a ha
  rw [List.all_eq_true] at h2
  exact eq_of_beq (h2 b hb)
theorem tyD_mem {d : D} {a : String} (h : tyD d = some a) : a ∈ tyNames := by
  unfold tyD at h
  split at h <;> first | (cases h; decide) | cases h
theorem seen_ty {G : Gm} {W0 W : Wd} {H0 H : Hp} {σ : L2.St} {E : Env} {M : Mem} {d : D} {v : V} {a : String} (r : Rel G W0 H0 W σ H E M) (s : Seen G W H σ E d v) (h : tyD (view M d) = some a) : TyX G.K H v (.type a) := by
  rcases r.seen s with ⟨p, c, rfl, q, k⟩ | ⟨q, k⟩
  · rw [q] at h
    cases c with
    | lst ds => cases h; obtain ⟨vs, h1, _⟩ := k; exact .base (.lst h1)
    | dK ds => cases h; obtain ⟨vs, h1, _⟩ := k; exact .base (.dK h1)
    | _ => cases h
  · rw [q] at h
    cases k with
    | non => cases h; exact .base .non
    | bl b => cases h; exact .base (.bl b)
    | int b => cases h; exact .base (.int b)
    | str b => cases h; exact .base (.str b)
    | tup h1 _ => cases h; exact .base (.tup h1)
    | lst _ h1 _ => cases h; exact .base (.lst h1)
    | dK _ h1 _ _ =>
      cases h
      rcases h1 with h1 | ⟨o, h1⟩
      · exact .base (.dK h1)
      · exact .fDict h1
    | _ => cases h
section
variable {X : Cx} {ct : List (Str × List Str)} {Wx : WX} {e a b c : Expr} {es : List Expr} {f f1 f2 f3 : CE} {g : CA} {t t1 t2 : CT} {pos p2 : Pos} {rest : List Expr} {x y : Str} {p p' : Pos}
theorem pf_isi {n : String} (hn : n ∈ tyNames) (hm : X.mg "isinstance" = none) (hy : X.mg y = none) (hv : bootBuiltins y = some (.type n)) (ha : POf X ct Wx a f) (hg : Gl X "isinstance" := by rfl) (hgy : Gl X y := by rfl) (hny : y ≠ "__name__" := by decide) (hdy : (y == ("__debug__" : Str)) = false := by decide)
    (he : starEach [a, .Name y p'] X.env = (false, eval a X.env) :: starEach [.Name y p'] X.env := by rfl) (hpl : (backTo pos (starEach [.Name y p'] X.env)).any (·.1) = false := by rfl) : PF X ct Wx (.Call (.Name "isinstance" p) [a, .Name y p'] [] pos) (c1 (gIsI n) f) := by
  refine PE.fin (pe_callB call_isi hg hm (by decide +kernel) (pa_cons ha (pa_cons (pe_bltn (v := .ty n) hgy hy hv rfl hny hdy) pa_nil) he) (by decide) (by decide) he hpl) ?_
  rintro σ H Q l ⟨W0, H0, W, E, M, rel, p⟩
  refine ⟨W0, H0, W, E, M, rel, Post.bind p fun d1 M1 W1 H1 v1 _ x1 rel1 p1 l1 p => ?_⟩
  cases q : gIsI n (view M1 d1) with
  | none => rw [q] at p; exact p.elim
  | some d =>
    rw [q] at p
    unfold gIsI isI at q
    rw [Option.map_eq_some_iff] at q
    obtain ⟨b, q, rfl⟩ := q
    rw [Option.map_eq_some_iff] at q
    obtain ⟨ty, q, rfl⟩ := q
    exact ⟨v1, .ty n, .type ty, .type n, subTy ty n, rfl, .ty n, seen_ty rel1 p1 q, kit_ty (kit_at (tyD_mem q) hn), fun l'' => p W1 H1 _ Ext.refl rel1 (.bl _) l1⟩
end
end J
namespace JR
open PySem PySem.Spec PyProof.Rows L2

/-! ### enumerate of a tuple -/
theorem meets_enumerate_newT (l : Addr) (items : Array Value) (n : Nat) (dct : Option Addr) (sl : Array (Option Value)) :
    Meets (Builtin.«enumerate.__new__» ⟨[.type "enumerate", .ref l], []⟩) (fun _ R s => s.heap.get? l = some { cls := .type "tuple", dict := dct, data := .seq items n, slots := sl } ∧
      R (.ok (.ret (.ref (s.heap.push { cls := .type "tuple_iterator", data := .fields #[.ref l, .int 0 0] }).objs.size)))
        { s with heap := (s.heap.push { cls := .type "tuple_iterator", data := .fields #[.ref l, .int 0 0] }).push { cls := .type "enumerate", data := .fields #[.none, .bool false, .ref s.heap.objs.size, rawInt 0, .none, .none] } }) :=
  .of_wp fun prog w A R s h => by
    obtain ⟨hp, g, d, tk, os⟩ := s; obtain ⟨hl, h⟩ := h
    have hsub := sub_enumerate
    have hL : Heap.IsTuple (Shared.heap ⟨hp, g, d, tk, os⟩) l items := ⟨_, hl, rfl, n, rfl⟩
    wp_walk using AutoSeq1.wpAny_loadPart' hl
    refine wpAny_stack_any fun st => wpAny_pure ?_
    split
    · rename_i c _ _ _ _ _
      cases (c == Value.type "enumerate")
      · wp_walk using AutoSeq1.wpAny_loadPart' hl, wpAny_pyIter_tuple hL
        exact ⟨_, rfl, h⟩
      · wp_walk using AutoSeq1.wpAny_loadPart' hl, wpAny_pyIter_tuple hL
        exact ⟨_, rfl, h⟩
    · wp_walk using AutoSeq1.wpAny_loadPart' hl, wpAny_pyIter_tuple hL
      exact ⟨_, rfl, h⟩
theorem call_enumerate_tuple {prog : Program} {w : World} {A : Around} {E : Value → Shared → Prop} {s : Shared} {l : Addr} {items : Array Value} {Q : Value → Shared → Prop} (hL : IsTup s.heap l items)
    (h : ∀ h', IsEnum h' (s.heap.objs.size + 1) s.heap.objs.size 0 .none → h'.IsTupleIter s.heap.objs.size l 0 → h'.objs.size = s.heap.objs.size + 2 →
      (∀ b o, s.heap.get? b = some o → h'.get? b = some o) → Q (.ref (s.heap.objs.size + 1)) { s with heap := h' }) :
    wpAny (model prog w) A (call (.type "enumerate") [.ref l]) Q E s := by
  obtain ⟨⟨c, dct, dt, sl⟩, hl, hc, n, hd⟩ := hL
  replace hc : c = .type "tuple" := hc
  replace hd : dt = .seq items n := hd
  subst hc hd
  refine callType_new F.called_enumerate (by decide) (F.typeCall_enumerate_1 _) (F.newCall_enumerate_1 _) (fun obj => F.args_object_init_2 obj _) F.entry_enumerate_new
    (meets_enumerate_newT l items n dct sl) ⟨hl, ?_⟩
  have hz : (s.heap.push { cls := .type "tuple_iterator", data := .fields #[.ref l, .int 0 0] }).objs.size = s.heap.objs.size + 1 := Heap.size_push ..
  show _ ∧ _
  rw [hz]
  have he : IsEnum ((s.heap.push { cls := .type "tuple_iterator", data := .fields #[.ref l, .int 0 0] }).push
      { cls := .type "enumerate", data := .fields #[.none, .bool false, .ref s.heap.objs.size, rawInt 0, .none, .none] }) (s.heap.objs.size + 1) s.heap.objs.size 0 .none := by
    have := Heap.get?_push_size (s.heap.push { cls := .type "tuple_iterator", data := .fields #[.ref l, .int 0 0] })
      (o := { cls := .type "enumerate", data := .fields #[.none, .bool false, .ref s.heap.objs.size, rawInt 0, .none, .none] }) rfl
    rw [hz] at this; exact this
  refine ⟨⟨_, he, rfl⟩, h _ he ⟨_, Heap.get?_push_of_some _ (Heap.get?_push_size _ rfl), rfl, rfl⟩ (by rw [Heap.size_push, hz]) fun b o x => Heap.get?_push_of_some _ (Heap.get?_push_of_some _ x)⟩

def IteT (K : PySem.W.Frag) (a : Addr) : It :=
  ⟨fun i H => ∃ (xs : List V) (x : V), SqT K H a xs ∧ xs[i]? = some x, fun i H v H' => ∃ T x, v = .ref T ∧ H T = none ∧ H' = upd H T (.tup [.int (i : Nat), x]) ∧ ∀ xs, SqT K H a xs → xs[i]? = some x, fun i H => ∃ xs : List V, SqT K H a xs ∧ xs.length = i⟩
theorem turn_enumT {P : Program} {w : World} {K : PySem.W.Frag} {elts : List Expr} {kk : Nat} {tpos : Pos} (a e it : Addr) :
    Turn P w K (.Tuple elts kk tpos) (IteT K a) [e, it] e (fun i h => (∃ old, IsEnum h e it ((i : Nat) : Int) old) ∧ h.IsTupleIter it a i ∧ e ≠ it) where
  mem := by simp
  obj := fun i h st b hb => by
    obtain ⟨⟨old, he⟩, ⟨o, ho, hc, hd⟩, _⟩ := st
    have e' : b = e ∨ b = it := by simpa using hb
    rcases e' with z | z
    · rw [z]; exact ⟨_, he, fun v q => nomatch q⟩
    · rw [z]; exact ⟨o, ho, fun v q => by rw [hd] at q; cases q⟩
  keep := fun i h h' st k => let ⟨⟨old, he⟩, hi, hne⟩ := st; ⟨⟨old, k e (by simp) _ he⟩, hi.at fun o q => k it (by simp) o q, hne⟩
  item := by
    intro X hP hw hK hc i pins s σ H E I hf st hg
    subst hP hw hK
    obtain ⟨⟨old, he⟩, hit, hne⟩ := st
    obtain ⟨xs, x, hq, hx⟩ := hg
    obtain ⟨its, rv, p, hz⟩ := I.tuple hq
    obtain ⟨u, hu, ru⟩ := rv.get hx
    have hel : e < s.heap.objs.size := Heap.lt_size he
    have hil : it < s.heap.objs.size := by obtain ⟨_, q, _⟩ := hit; exact Heap.lt_size q
    have nae : a ≠ it := fun q => by
      subst q
      obtain ⟨o1, e1, c1, _⟩ := hit
      obtain ⟨o2, e2, c2, _⟩ := p
      rw [e1] at e2; cases e2
      rw [c1] at c2; exact absurd (Value.type.inj c2) (by decide)
    have nae2 : a ≠ e := fun q => by
      subst q
      obtain ⟨o2, e2, c2, _⟩ := p
      rw [show s.heap.get? a = some _ from he] at e2; cases e2
      exact absurd (Value.type.inj c2) (by decide)
    have D := Draws.tuple (prog := X.prog) (w := X.w) (A := X.A.in1) (I.ok.hd hc) it a nae its.toArray
    have WT := WalksT.enumerateD (A := X.A) D e hne (by simp [hne, Ne.symm nae2]) (by simp)
    refine WT.item i s _ _ (by simpa using (List.getElem?_eq_some_iff.mp hu).1) ⟨⟨old, he⟩, hit, p⟩ fun T vals h' tk hv hn hT mid hk => ?_
    obtain ⟨t, y, hy, rfl⟩ := hv
    have ey : y = u := by
      have hy : its.toArray[i]? = some y := hy
      rw [show its.toArray[i]? = some u by simpa using hu] at hy
      exact (Option.some.inj hy).symm
    subst ey
    refine ⟨_, rfl, WT.go elts kk tpos i T { s with heap := h', toks := tk } _ _ mid fun h'' st'' hk'' => ?_⟩
    have nT : T ∉ [e, it] := WT.apart i T h' mid
    obtain ⟨oT, eT, cT, nTt, dT⟩ := hT
    have hT2 : h''.get? T = some oT := hk'' T oT nT eT
    have new : ObjOk X.prog X.w (upd H T (.tup [.int (i : Nat), x])) h'' T (.tup [.int (i : Nat), x]) :=
      ⟨by show 2 ≤ sizeLine; decide, [.int i t, y], .cons ⟨_, rfl⟩ (.cons ru .nil), ⟨oT, hT2, cT, _, dT⟩⟩
    have I1 : Inv X pins σ (upd H T (.tup [.int (i : Nat), x])) { s with heap := h'', toks := tk } :=
      I.turnedNew (ch := [e, it]) (fun b ob hb q => hk'' b ob hb (hk b ob hb q)) hf hn new
    obtain ⟨⟨old', he'⟩, hit', _⟩ := st''
    refine ⟨.ref T, _, I1, rfl, ⟨_, x, rfl, I.hok.fresh hn, rfl, fun ys hy => by rw [I.tuple_inj hy hq]; exact hx⟩, ⟨⟨old', he'⟩, hit', hne⟩, fun b hb => ?_⟩
    have hb' : b < s.heap.objs.size := by
      have e' : b = e ∨ b = it := by simpa using hb
      rcases e' with z | z
      · rw [z]; exact hel
      · rw [z]; exact hil
    rw [upd_ne (Nat.ne_of_lt (Nat.lt_of_lt_of_le hb' hn))]
    exact (hf b hb).1
  done := by
    intro X hP hw hK hc i pins s σ H E I hf st hg
    subst hP hw hK
    obtain ⟨⟨old, he⟩, hit, hne⟩ := st
    obtain ⟨xs, hq, hx⟩ := hg
    obtain ⟨its, rv, p, hz⟩ := I.tuple hq
    have hl := rv.length
    have nae : a ≠ it := fun q => by
      subst q
      obtain ⟨o1, e1, c1, _⟩ := hit
      obtain ⟨o2, e2, c2, _⟩ := p
      rw [e1] at e2; cases e2
      rw [c1] at c2; exact absurd (Value.type.inj c2) (by decide)
    have nae2 : a ≠ e := fun q => by
      subst q
      obtain ⟨o2, e2, c2, _⟩ := p
      rw [show s.heap.get? a = some _ from he] at e2; cases e2
      exact absurd (Value.type.inj c2) (by decide)
    have D := Draws.tuple (prog := X.prog) (w := X.w) (A := X.A.in1) (I.ok.hd hc) it a nae its.toArray
    have WT := WalksT.enumerateD (A := X.A) D e hne (by simp [hne, Ne.symm nae2]) (by simp)
    have en : i = its.toArray.size := by rw [List.size_toArray, ← hl, hx]
    subst en
    exact WT.done s _ _ ⟨⟨old, he⟩, hit, p⟩ fun h' tk hk => ⟨rfl, I.turnedL (t' := tk) (ch := [e, it]) hk hf⟩
  self := fun A i s Q E st h => let ⟨⟨_, he⟩, _⟩ := st; wpAny_pyIter_enum he h

/-- enumerate of a list or a tuple -/
def iEnumS (K : PySem.W.Frag) (ta : TA) : TI := fun σ H R => ta σ H fun vs H1 => ∃ a xs, vs = [.ref a] ∧ ((SqL K H1 a xs ∧ R (Ite K a) H1) ∨ (SqT K H1 a xs ∧ R (IteT K a) H1))
theorem pi_enumS {X : Cx} {e : Expr} {ta : TA} {p pos tpos : Pos} {elts : List Expr} {kk : Nat} (hg : Gl X "enumerate") (hm : X.mg "enumerate" = none) (ha : PA X [e] ta) (hs : starEach [e] X.env = [(false, eval e X.env)] := by rfl) :
    PI X (.Tuple elts kk tpos) (.Call (.Name "enumerate" p) [e] [] pos) (iEnumS X.K ta) := by
  refine ⟨fun pins s σ H R I h => ?_⟩
  refine Call_ (ld_blt I hg hm boot_enumerate (PyProof.Rows.callWith_type1 (thn (ha.run pos pins s σ H _ I h) fun us s1 ⟨vs, H1, I1, r1, q1⟩ => ?_) hs rfl))
  obtain ⟨a, xs, ex, q1⟩ := q1
  subst ex
  have fp : ∀ b, (b = s1.heap.objs.size + 1 ∨ b = s1.heap.objs.size) → FpOk X pins H1 b := fun b e' => by
    have hle : s1.heap.objs.size ≤ b := by
      rcases e' with z | z
      · rw [z]; exact Nat.le_add_right _ _
      · rw [z]; exact Nat.le_refl _
    exact I1.fpOk hle (I1.hok.fresh hle)
  cases r1 with
  | cons r rr =>
    cases rr
    cases r
    rcases q1 with ⟨hq, q⟩ | ⟨hq, q⟩
    · obtain ⟨its, rv, p', hz⟩ := I1.list hq
      refine call_enumerate_list p'.isList fun h' he hit hsz hk => wpAny_pyIter_enum he ?_
      have I2 : Inv X pins σ H1 { s1 with heap := h' } := I1.kept (t' := s1.toks) hk
      exact ⟨s1.heap.objs.size + 1, [s1.heap.objs.size + 1, s1.heap.objs.size], _, _, H1, rfl, I2, turn_enum a (s1.heap.objs.size + 1) s1.heap.objs.size, ⟨⟨.none, he⟩, hit, Nat.succ_ne_self _⟩, fun b hb => fp b (by simpa using hb), q⟩
    · obtain ⟨its, rv, p', hz⟩ := I1.tuple hq
      refine call_enumerate_tuple p' fun h' he hit hsz hk => wpAny_pyIter_enum he ?_
      have I2 : Inv X pins σ H1 { s1 with heap := h' } := I1.kept (t' := s1.toks) hk
      exact ⟨s1.heap.objs.size + 1, [s1.heap.objs.size + 1, s1.heap.objs.size], _, _, H1, rfl, I2, turn_enumT a (s1.heap.objs.size + 1) s1.heap.objs.size, ⟨⟨.none, he⟩, hit, Nat.succ_ne_self _⟩, fun b hb => fp b (by simpa using hb), q⟩
/-- a list or a tuple itself -/
def iSeqS (K : PySem.W.Frag) (tl : TE) : TI := fun σ H R => tl σ H fun x H1 => ∃ a xs, x = .ref a ∧ ((SqL K H1 a xs ∧ R (Itl K a) H1) ∨ (SqT K H1 a xs ∧ R (Itt K a) H1))
theorem pi_seqS {X : Cx} {tg l : Expr} {tl : TE} (hl : PE X l tl) : PI X tg l (iSeqS X.K tl) := by
  refine ⟨fun pins s σ H R I h => ?_⟩
  refine thn (hl.run pins s σ H _ I h) fun v s1 ⟨x, H1, I1, r1, q1⟩ => ?_
  obtain ⟨a, xs, e, q1⟩ := q1
  subst e
  cases r1
  have fp : ∀ b, b = s1.heap.objs.size → FpOk X pins H1 b := fun b e' => by
    subst e'
    exact I1.fpOk (Nat.le_refl _) (I1.hok.fresh (Nat.le_refl _))
  rcases q1 with ⟨hq, q⟩ | ⟨hq, q⟩
  · obtain ⟨its, rv, p, hz⟩ := I1.list hq
    refine wpAny_pyIter_list p.isList ?_
    exact ⟨s1.heap.objs.size, [s1.heap.objs.size], _, _, H1, rfl, I1.kept (t' := s1.toks) fun b o e => Heap.get?_push_of_some _ e, turn_list a _, ⟨_, Heap.get?_push_size _ rfl, rfl, rfl⟩, fun b hb => fp b (by simpa using hb), q⟩
  · obtain ⟨its, rv, p, hz⟩ := I1.tuple hq
    refine wpAny_pyIter_tuple (show s1.heap.IsTuple a its.toArray from p) ?_
    exact ⟨s1.heap.objs.size, [s1.heap.objs.size], _, _, H1, rfl, I1.kept (t' := s1.toks) fun b o e => Heap.get?_push_of_some _ e, turn_tuple a _, ⟨_, Heap.get?_push_size _ rfl, rfl, rfl⟩, fun b hb => fp b (by simpa using hb), q⟩
end JR
namespace J
open PySem PySem.Spec L2

section
variable {G : Gm} {Wx : WX} {W0 W W1 W' : Wd} {H0 H H1 H' : Hp} {σ : L2.St} {E : Env} {M M1 : Mem} {d : D} {v : V} {ds : List D}

/-! ### slots -/
theorem Rel.set (r : Rel G W0 H0 W σ H E M) (i : Nat) (h : Rep G W H d v) : Rel G W0 H0 W (σ.set i (some v)) H (E.set i (.sh d)) M := by
  refine ⟨r.toCRel, r.ext, fun j s hs => ?_, by rw [List.length_set, List.length_set]; exact r.sz, fun j k c c' a h1 h2 h3 h4 => ?_⟩
  · by_cases e : i = j
    · subst e
      have hl : i < E.length := by
        have := (List.getElem?_eq_some_iff.mp hs).1
        rwa [List.length_set] at this
      rw [List.getElem?_set_self hl] at hs
      cases hs
      exact ⟨v, by rw [List.getElem?_set_self (by rw [← r.sz]; exact hl)], h⟩
    · rw [List.getElem?_set_ne e] at hs
      have q := r.slt j s hs
      cases s with
      | un => exact True.intro
      | sh d => obtain ⟨w, e2, h2⟩ := q; exact ⟨w, by rw [List.getElem?_set_ne e]; exact e2, h2⟩
      | ow c => obtain ⟨a, e2, h2⟩ := q; exact ⟨a, by rw [List.getElem?_set_ne e]; exact e2, h2⟩
  · have n1 : i ≠ j := fun e => by
      subst e
      have hl : i < E.length := by
        have := (List.getElem?_eq_some_iff.mp h1).1
        rwa [List.length_set] at this
      rw [List.getElem?_set_self hl] at h1; cases h1
    have n2 : i ≠ k := fun e => by
      subst e
      have hl : i < E.length := by
        have := (List.getElem?_eq_some_iff.mp h2).1
        rwa [List.length_set] at this
      rw [List.getElem?_set_self hl] at h2; cases h2
    rw [List.getElem?_set_ne n1] at h1 h3
    rw [List.getElem?_set_ne n2] at h2 h4
    exact r.own j k c c' a h1 h2 h3 h4
theorem jwipe_length (E : Env) : ∀ vs : List Nat, (J.wipe E vs).length = E.length
  | [] => rfl
  | v :: vs => by unfold J.wipe; rw [List.length_set, jwipe_length E vs]
theorem jwipe_at {i : Nat} {s : Sl} : ∀ {vs : List Nat}, (J.wipe E vs)[i]? = some s → s = .un ∨ (i ∉ vs ∧ E[i]? = some s)
  | [], h => .inr ⟨by simp, h⟩
  | v :: vs, h => by
    unfold J.wipe at h
    by_cases e : v = i
    · subst e
      have hl : v < (J.wipe E vs).length := by
        have := (List.getElem?_eq_some_iff.mp h).1
        rwa [List.length_set] at this
      rw [List.getElem?_set_self hl] at h
      cases h
      exact .inl rfl
    · rw [List.getElem?_set_ne e] at h
      rcases jwipe_at h with q | ⟨q1, q2⟩
      · exact .inl q
      · exact .inr ⟨fun z => by rcases List.mem_cons.mp z with z | z; exact e z.symm; exact q1 z, q2⟩
theorem Rel.wipe (r : Rel G W0 H0 W σ H E M) (vs : List Nat) : Rel G W0 H0 W (L2.wipe σ vs) H (J.wipe E vs) M := by
  refine ⟨r.toCRel, r.ext, fun j s hs => ?_, by rw [jwipe_length, wipe_length]; exact r.sz, fun j k c c' a h1 h2 h3 h4 => ?_⟩
  · rcases jwipe_at hs with q | ⟨q1, q2⟩
    · subst q; exact True.intro
    · have q := r.slt j s q2
      cases s with
      | un => exact True.intro
      | sh d => obtain ⟨w, e2, h2⟩ := q; exact ⟨w, by rw [wipe_out q1]; exact e2, h2⟩
      | ow c => obtain ⟨a, e2, h2⟩ := q; exact ⟨a, by rw [wipe_out q1]; exact e2, h2⟩
  · rcases jwipe_at h1 with q | ⟨q1, q2⟩
    · cases q
    · rcases jwipe_at h2 with p | ⟨p1, p2⟩
      · cases p
      · rw [wipe_out q1] at h3
        rw [wipe_out p1] at h4
        exact r.own j k c c' a q2 p2 h3 h4

/-! ### targets -/
end
section
variable {X : Cx} {ct : List (Str × List Str)} {Wx : WX} {e a b c tg iter elt : Expr} {es : List Expr} {f f1 f2 f3 : CE} {g : CA} {t t1 t2 : CT} {pos p2 : Pos} {rest : List Expr} {x y : Str} {p p' : Pos}
/-- a target: g says what it does; is are its slots -/
def PGf (X : Cx) (ct : List (Str × List Str)) (tg : Expr) (is : List Nat) (gt : TG) (g : CG) : Prop :=
  PG X tg gt ∧ ∀ W0 H0 W σ H E M d v E' (Q : L2.St → Hp → Prop), Rel (Gx X ct) W0 H0 W σ H E M → Rep (Gx X ct) W H d v → g d E = some E' →
    (∀ σ', Rel (Gx X ct) W0 H0 W σ' H E' M → (∀ vs, (∀ i ∈ is, i ∈ vs) → L2.wipe σ' vs = L2.wipe σ vs) → Q σ' H) → gt v σ H Q
def PGfs (X : Cx) (ct : List (Str × List Str)) (tgs : List Expr) (is : List Nat) (gt : TGs) (gs : List CG) : Prop :=
  PGs X tgs gt ∧ ∀ W0 H0 W σ H E M ds vs E' (Q : L2.St → Hp → Prop), Rel (Gx X ct) W0 H0 W σ H E M → Reps (Gx X ct) W H ds vs → gsN gs ds E = some E' →
    (∀ σ', Rel (Gx X ct) W0 H0 W σ' H E' M → (∀ vs, (∀ i ∈ is, i ∈ vs) → L2.wipe σ' vs = L2.wipe σ vs) → Q σ' H) → gt vs σ H Q
theorem wipe_set {σ : L2.St} {i : Nat} {v : V} : ∀ {vs : List Nat}, i ∈ vs → L2.wipe (σ.set i (some v)) vs = L2.wipe σ vs
  | [], h => by cases h
  | j :: vs, h => by
    unfold L2.wipe
    by_cases e : i = j
    · subst e
      by_cases m : i ∈ vs
      · rw [wipe_set m]
      · have : ∀ (vs : List Nat), i ∉ vs → (L2.wipe (σ.set i (some v)) vs).set i none = (L2.wipe σ vs).set i none := by
          intro vs
          induction vs with
          | nil => intro _; unfold L2.wipe; rw [List.set_set]
          | cons k vs ih =>
            intro hm
            unfold L2.wipe
            have n : k ≠ i := fun e => hm (by rw [e]; exact List.mem_cons_self)
            rw [List.set_comm _ _ n, ih (fun z => hm (List.mem_cons_of_mem _ z)), List.set_comm _ _ n]
        exact this vs m
    · rcases List.mem_cons.mp h with z | z
      · exact (e z).elim
      · rw [wipe_set z]
theorem pg_n (i : Nat) (hN : X.N.Nodup) (hi : X.N[i]? = some x := by rfl) (hx : Loc X.env.scope x := by first | exact .inl rfl | exact .inr rfl) (hf : X.fn x = true ∨ X.env.scope.names.lookup x = some .local := by first | exact .inl rfl | exact .inr rfl | assumption) : PGf X ct (.Name x pos) [i] (gName i) (gN i) := by
  refine ⟨pg_name hN hi hx hf, fun W0 H0 W σ H E M d v E' Q rel r h k => ?_⟩
  cases h
  exact k _ (rel.set i r) fun vs h => wipe_set (h i List.mem_cons_self)
theorem pgs_n : PGfs X ct [] [] gNil [] := by
  refine ⟨pgs_nil, fun W0 H0 W σ H E M ds vs E' Q rel r h k => ?_⟩
  cases r with
  | nil => cases h; exact ⟨rfl, k _ rel fun vs _ => rfl⟩
  | cons _ _ => cases h
theorem pgs_c {is js : List Nat} {gg : CG} {gs : List CG} {g1 : TG} {g2 : TGs} (h1 : PGf X ct e is g1 gg) (h2 : PGfs X ct es js g2 gs) (hs : (assignEach (e :: es) X.env).map (·.2) = assign e X.env :: (assignEach es X.env).map (·.2) := by rfl) : PGfs X ct (e :: es) (is ++ js) (gCons g1 g2) (gg :: gs) := by
  obtain ⟨a1, k1⟩ := h1
  obtain ⟨a2, k2⟩ := h2
  refine ⟨pgs_cons a1 a2 hs, fun W0 H0 W σ H E M ds vs E' Q rel r h k => ?_⟩
  cases r with
  | nil => cases h
  | @cons d ds v vs r rs =>
    rw [gsN, Option.bind_eq_some_iff] at h
    obtain ⟨E1, h1, h2⟩ := h
    refine ⟨v, vs, rfl, k1 W0 H0 W σ H E M d v E1 _ rel r h1 fun σ1 rel1 w1 => ?_⟩
    refine k2 W0 H0 W σ1 H E1 M ds vs E' Q rel1 rs h2 fun σ2 rel2 w2 => k σ2 rel2 fun vs hv => ?_
    rw [w2 vs fun i hi => hv i (List.mem_append_right _ hi), w1 vs fun i hi => hv i (List.mem_append_left _ hi)]
theorem gsN_len : ∀ {gs : List CG} {ds : List D} {E E' : Env}, gsN gs ds E = some E' → ds.length = gs.length
  | [], [], _, _, _ => rfl
  | [], _ :: _, _, _, h => by cases h
  | _ :: _, [], _, _, h => by cases h
  | g :: gs, d :: ds, E, E', h => by
    rw [gsN, Option.bind_eq_some_iff] at h
    obtain ⟨E1, _, h2⟩ := h
    rw [List.length_cons, List.length_cons, gsN_len h2]
theorem pg_t {k : Nat} {is : List Nat} {gs : List CG} {g1 : TGs} (hc : X.calm = true) (h : PGfs X ct es is g1 gs) (hn : (assignEach es X.env).length = gs.length := by rfl) (hst : (assignEach es X.env).findIdx? (·.1) = none := by rfl) : PGf X ct (.Tuple es k pos) is (gTup X.K gs.length g1) (gT gs) := by
  obtain ⟨a1, k1⟩ := h
  refine ⟨pg_tup hc a1 hn hst, fun W0 H0 W σ H E M d v E' Q rel r h k => ?_⟩
  cases r with
  | @tup p vs ds h1 r =>
    have h : gsN gs ds E = some E' := h
    exact ⟨p, vs, rfl, .of h1, by rw [← r.length]; exact gsN_len h, k1 W0 H0 W σ H E M ds vs E' Q rel r h k⟩
  | _ => cases h

/-! ### what is walked -/
def IterOk (G : Gm) (W : Wd) (H : Hp) (ds : List D) (J : It) : Prop :=
  ∀ W' H' M', Ext0 W H W' H' → CRel G W' H' M' → LenOk H' → ∀ i, i ≤ ds.length → (∀ d, ds[i]? = some d → J.go i H' ∧ ∀ x H'', J.yld i H' x H'' → ∃ W'', Ext W' H' W'' H'' ∧ CRel G W'' H'' M' ∧ Rep G W'' H'' d x ∧ LenOk H'') ∧ (i = ds.length → J.stop i H')
def tI (G : Gm) (Wx : WX) (f : CA) : TI := fun σ H R => ∃ W0 H0 W E M, Rel G W0 H0 W σ H E M ∧ Post G Wx (fun W' H' ds J => IterOk G W' H' ds J ∧ ds.length ≤ sizeLine) W0 H0 W H σ E (f E M) R
abbrev PIf (X : Cx) (ct : List (Str × List Str)) (Wx : WX) (tg iter : Expr) (f : CA) : Prop := PI X tg iter (tI (Gx X ct) Wx f)
theorem PI_fin {wi wi' : TI} (h : PI X tg iter wi) (hw : ∀ σ H R, LenOk H → wi' σ H R → wi σ H (fun J H' => LenOk H' → R J H')) : PI X tg iter wi' :=
  ⟨fun pins s σ H R I q => thn (h.run pins s σ H _ I (hw σ H R (lenOk_of I) q)) fun v s1 h1 => thn h1 fun u s2 ⟨it, fp, tn, J, H', e, I', T, st, hf, r⟩ => ⟨it, fp, tn, J, H', e, I', T, st, hf, r (lenOk_of I')⟩⟩
theorem reps_at {G : Gm} {W : Wd} {H : Hp} {ds : List D} {vs : List V} {i : Nat} {d : D} {x : V} (r : Reps G W H ds vs) (h : ds[i]? = some d) (hx : vs[i]? = some x) : Rep G W H d x := by
  obtain ⟨v, h1, h2⟩ := r.get h
  rw [h1] at hx; cases hx
  exact h2
theorem sqL_fix {K : PySem.W.Frag} {H : Hp} {a : Addr} {xs ys : List V} (h : H a = some (.lst xs)) (hk : SqL K H a ys → ys = xs) : True := trivial
theorem pi_seq (h : PF X ct Wx a f) : PIf X ct Wx tg a (iSeq f) := by
  refine PI_fin (JR.pi_seqS h) ?_
  rintro σ H R l ⟨W0, H0, W, E, M, rel, p⟩
  refine ⟨W0, H0, W, E, M, rel, Post.bind p fun d1 M1 W1 H1 v1 _ x1 rel1 p1 l1 p => ?_⟩
  cases p1 with
  | @lst q vs ds z h r =>
    refine ⟨q, vs, rfl, .inl ⟨.of h, fun l' => p W1 H1 _ Ext.refl rel1 ⟨fun W' H' M' x c l2 i hi => ⟨fun d hd => ?_, fun hi => ?_⟩, by rw [r.length]; exact l1.1 _ _ (.inl h)⟩ l1⟩⟩
    · have h' := x.ls _ _ z h
      obtain ⟨w, hw, rw'⟩ := r.get hd
      refine ⟨⟨vs, w, .of h', hw⟩, fun y H'' hy => ?_⟩
      obtain ⟨rfl, hy⟩ := hy
      exact ⟨W', Ext.refl, c, reps_at (r.mono x) hd (hy vs (.of h')), l2⟩
    · exact ⟨vs, .of (x.ls _ _ z h), by rw [hi, r.length]; exact Nat.le_refl _⟩
  | @tup q vs ds h r =>
    refine ⟨q, vs, rfl, .inr ⟨.of h, fun l' => p W1 H1 _ Ext.refl rel1 ⟨fun W' H' M' x c l2 i hi => ⟨fun d hd => ?_, fun hi => ?_⟩, by rw [r.length]; exact l1.2 _ _ h⟩ l1⟩⟩
    · have h' := x.tp _ _ h
      obtain ⟨w, hw, rw'⟩ := r.get hd
      refine ⟨⟨vs, w, .of h', hw⟩, fun y H'' hy => ?_⟩
      obtain ⟨rfl, hy⟩ := hy
      exact ⟨W', Ext.refl, c, reps_at (r.mono x) hd (hy vs (.of h')), l2⟩
    · exact ⟨vs, .of (x.tp _ _ h), by rw [hi, r.length]; exact Nat.le_refl _⟩
  | @scr q vs ds h r =>
    have sq : ∀ {W' H'}, Ext0 W1 H1 W' H' → SqL X.K H' q vs := fun x => by
      rcases h with ⟨o, h⟩ | h
      · exact .inl (.inr ⟨o, x.fz _ _ _ h⟩)
      · exact .inr h
    have hz : vs.length ≤ sizeLine := by
      rcases h with ⟨o, h⟩ | ⟨o, its, n, _, _, _, _, hz, rv⟩
      · exact l1.1 _ _ (.inr ⟨o, h⟩)
      · have := rv.length
        simp only [Array.length_toList] at this
        omega
    refine ⟨q, vs, rfl, .inl ⟨sq Ext0.refl, fun l' => p W1 H1 _ Ext.refl rel1 ⟨fun W' H' M' x c l2 i hi => ⟨fun d hd => ?_, fun hi => ?_⟩, by rw [r.length]; exact hz⟩ l1⟩⟩
    · obtain ⟨w, hw, rw'⟩ := r.get hd
      refine ⟨⟨vs, w, sq x, hw⟩, fun y H'' hy => ?_⟩
      obtain ⟨rfl, hy⟩ := hy
      exact ⟨W', Ext.refl, c, reps_at (r.mono x) hd (hy vs (sq x)), l2⟩
    · exact ⟨vs, sq x, by rw [hi, r.length]; exact Nat.le_refl _⟩
  | _ => exact False.elim p
theorem upFrom_at : ∀ (n : Nat) (a : Int) (i : Nat) (d : D), (upFrom a n)[i]? = some d → i < n ∧ d = .int (a + i)
  | 0, a, i, d, h => by simp [upFrom] at h
  | n + 1, a, 0, d, h => by
    simp [upFrom] at h
    subst h
    exact ⟨Nat.succ_pos _, by simp⟩
  | n + 1, a, i + 1, d, h => by
    have h : (upFrom (a + 1) n)[i]? = some d := by simpa [upFrom] using h
    obtain ⟨h1, h2⟩ := upFrom_at n (a + 1) i d h
    refine ⟨Nat.succ_lt_succ h1, ?_⟩
    rw [h2]
    congr 1
    push_cast
    omega
theorem upFrom_len : ∀ (n : Nat) (a : Int), (upFrom a n).length = n
  | 0, _ => rfl
  | n + 1, a => by rw [upFrom, List.length_cons, upFrom_len n]
theorem iter_rng {G : Gm} {W : Wd} {H : Hp} (a : Int) (n : Nat) : IterOk G W H (upFrom a n) (Itr a n) := fun W' H' M' x c l i hi => by
  rw [upFrom_len] at *
  refine ⟨fun d hd => ?_, fun hi => ?_⟩
  · obtain ⟨h1, h2⟩ := upFrom_at n a i d hd
    subst h2
    exact ⟨h1, fun y H'' ⟨e1, e2⟩ => by subst e1 e2; exact ⟨W', Ext.refl, c, .int _, l⟩⟩
  · subst hi; exact Nat.le_refl _
theorem pi_rng (hm : X.mg "range" = none) (h : PF X ct Wx a f) (hg : Gl X "range" := by rfl) (hs : starEach [a] X.env = [(false, eval a X.env)] := by rfl) (hs' : starEach [a] X.env = (false, eval a X.env) :: starEach [] X.env := by rfl) : PIf X ct Wx tg (.Call (.Name "range" p) [a] [] pos) (iRng f) := by
  refine PI_fin (pi_range1 hg hm (pa_cons h pa_nil hs') hs) ?_
  rintro σ H R l ⟨W0, H0, W, E, M, rel, p⟩
  refine ⟨W0, H0, W, E, M, rel, Post.bind p fun d1 M1 W1 H1 v1 _ x1 rel1 p1 l1 p => ?_⟩
  cases p1 with
  | int n =>
    dsimp only at p
    split at p
    · rename_i c
      have c : n.natAbs ≤ 16777216 := c
      exact ⟨n, rfl, by omega, by omega, fun l' => p W1 H1 _ Ext.refl rel1 ⟨iter_rng 0 n.toNat, by rw [upFrom_len]; show n.toNat ≤ 16777216; omega⟩ l1⟩
    · exact False.elim p
  | _ => exact False.elim p
theorem pi_rng2 (hm : X.mg "range" = none) (h1 : PF X ct Wx a f1) (h2 : PF X ct Wx b f2) (hg : Gl X "range" := by rfl) (hs : starEach [a, b] X.env = [(false, eval a X.env), (false, eval b X.env)] := by rfl) (hs2 : starEach [b] X.env = [(false, eval b X.env)] := by rfl)
    (hs' : starEach [a, b] X.env = (false, eval a X.env) :: starEach [b] X.env := by rfl) (hs2' : starEach [b] X.env = (false, eval b X.env) :: starEach [] X.env := by rfl) : PIf X ct Wx tg (.Call (.Name "range" p) [a, b] [] pos) (iRng2 f1 f2) := by
  refine PI_fin (pi_range2 hg hm (pa_cons h1 (pa_cons h2 pa_nil hs2') hs') hs hs2) ?_
  rintro σ H R l ⟨W0, H0, W, E, M, rel, p⟩
  refine ⟨W0, H0, W, E, M, rel, Post.bind p fun d1 M1 W1 H1 v1 _ x1 rel1 p1 l1 p => ?_⟩
  refine ⟨W0, H0, W1, E, M1, rel1, Post.bind p fun d2 M2 W2 H2 v2 _ x2 rel2 p2 l2 p => ?_⟩
  cases p1 with
  | int i =>
    cases p2 with
    | int j =>
      dsimp only at p
      split at p
      · rename_i c
        have c1 : i.natAbs ≤ 16777216 := c.1
        have c2 : j.natAbs ≤ 16777216 := c.2.1
        refine ⟨i, j, rfl, ⟨by omega, by omega, by omega, by omega⟩, fun l' => p W2 H2 _ Ext.refl rel2 ⟨iter_rng i (j - i).toNat, ?_⟩ l2⟩
        rw [upFrom_len]
        exact c.2.2
      · exact False.elim p
    | _ => exact False.elim p
  | _ => cases p2 <;> exact False.elim p
theorem pairUp_at : ∀ (as bs : List D) (i : Nat) (d : D), (pairUp as bs)[i]? = some d → ∃ x y, as[i]? = some x ∧ bs[i]? = some y ∧ d = .tup [x, y]
  | [], _, i, d, h => by simp [pairUp] at h
  | _ :: _, [], i, d, h => by simp [pairUp] at h
  | a :: as, b :: bs, 0, d, h => by
    simp [pairUp] at h
    subst h
    exact ⟨a, b, by simp, by simp, rfl⟩
  | a :: as, b :: bs, i + 1, d, h => by
    have h : (pairUp as bs)[i]? = some d := by simpa [pairUp] using h
    obtain ⟨x, y, h1, h2, h3⟩ := pairUp_at as bs i d h
    exact ⟨x, y, by simpa using h1, by simpa using h2, h3⟩
theorem pairUp_len : ∀ (as bs : List D), (pairUp as bs).length = min as.length bs.length
  | [], _ => by simp [pairUp]
  | _ :: _, [] => by simp [pairUp]
  | a :: as, b :: bs => by
    rw [pairUp, List.length_cons, pairUp_len as bs, List.length_cons, List.length_cons]
    omega
theorem new_pair {G : Gm} {W' : Wd} {H' : Hp} {M' : Mem} {T : Addr} {d1 d2 : D} {v1 v2 : V} (c : CRel G W' H' M') (l2 : LenOk H') (hT : H' T = none) (r1 : Rep G W' H' d1 v1) (r2 : Rep G W' H' d2 v2) :
    ∃ W'', Ext W' H' W'' (upd H' T (.tup [v1, v2])) ∧ CRel G W'' (upd H' T (.tup [v1, v2])) M' ∧ Rep G W'' (upd H' T (.tup [v1, v2])) (.tup [d1, d2]) (.ref T) ∧ LenOk (upd H' T (.tup [v1, v2])) := by
  have x := Ext.new (o := .tup [v1, v2]) c hT
  exact ⟨W', x, c.new hT, .tup upd_same (.cons (r1.mono x.toExt0) (.cons (r2.mono x.toExt0) .nil)), l2.new hT (fun _ q => by cases q) (fun _ q => by cases q; show 2 ≤ 16777216; decide) fun _ _ q => by cases q⟩
theorem pi_enm {elts : List Expr} {kk : Nat} {tpos : Pos} (hm : X.mg "enumerate" = none) (h : PF X ct Wx a f) (hg : Gl X "enumerate" := by rfl) (hs : starEach [a] X.env = [(false, eval a X.env)] := by rfl) (hs' : starEach [a] X.env = (false, eval a X.env) :: starEach [] X.env := by rfl) : PIf X ct Wx (.Tuple elts kk tpos) (.Call (.Name "enumerate" p) [a] [] pos) (iEnum f) := by
  refine PI_fin (JR.pi_enumS hg hm (pa_cons h pa_nil hs') hs) ?_
  rintro σ H R l ⟨W0, H0, W, E, M, rel, p⟩
  refine ⟨W0, H0, W, E, M, rel, Post.bind p fun d1 M1 W1 H1 v1 _ x1 rel1 p1 l1 p => ?_⟩
  have lenp : ∀ ds : List D, (pairUp (upFrom 0 ds.length) ds).length = ds.length := fun ds => by rw [pairUp_len, upFrom_len, Nat.min_self]
  cases p1 with
  | @lst q vs ds z h r =>
    refine ⟨q, vs, rfl, .inl ⟨.of h, fun l' => p W1 H1 _ Ext.refl rel1 ⟨fun W' H' M' x c l2 i hi => ⟨fun d hd => ?_, fun hi => ?_⟩, by rw [lenp, r.length]; exact l1.1 _ _ (.inl h)⟩ l1⟩⟩
    · have h' := x.ls _ _ z h
      obtain ⟨d1, d2, e1, e2, rfl⟩ := pairUp_at _ _ _ _ hd
      obtain ⟨_, rfl⟩ := upFrom_at _ _ _ _ e1
      obtain ⟨w, hw, rw'⟩ := r.get e2
      refine ⟨⟨vs, w, .of h', hw⟩, fun y H'' hy => ?_⟩
      obtain ⟨T, y, rfl, hT, rfl, hy⟩ := hy
      rw [show (0 : Int) + (i : Int) = (i : Int) by omega]
      exact new_pair c l2 hT (.int _) (reps_at (r.mono x) e2 (hy vs (.of h')))
    · exact ⟨vs, .of (x.ls _ _ z h), by rw [hi, lenp, r.length]; exact Nat.le_refl _⟩
  | @tup q vs ds h r =>
    refine ⟨q, vs, rfl, .inr ⟨.of h, fun l' => p W1 H1 _ Ext.refl rel1 ⟨fun W' H' M' x c l2 i hi => ⟨fun d hd => ?_, fun hi => ?_⟩, by rw [lenp, r.length]; exact l1.2 _ _ h⟩ l1⟩⟩
    · have h' := x.tp _ _ h
      obtain ⟨d1, d2, e1, e2, rfl⟩ := pairUp_at _ _ _ _ hd
      obtain ⟨_, rfl⟩ := upFrom_at _ _ _ _ e1
      obtain ⟨w, hw, rw'⟩ := r.get e2
      refine ⟨⟨vs, w, .of h', hw⟩, fun y H'' hy => ?_⟩
      obtain ⟨T, y, rfl, hT, rfl, hy⟩ := hy
      rw [show (0 : Int) + (i : Int) = (i : Int) by omega]
      exact new_pair c l2 hT (.int _) (reps_at (r.mono x) e2 (hy vs (.of h')))
    · exact ⟨vs, .of (x.tp _ _ h), by rw [hi, lenp, r.length]⟩
  | @scr q vs ds h r =>
    have sq : ∀ {W' H'}, Ext0 W1 H1 W' H' → SqL X.K H' q vs := fun x => by
      rcases h with ⟨o, h⟩ | h
      · exact .inl (.inr ⟨o, x.fz _ _ _ h⟩)
      · exact .inr h
    have hz : vs.length ≤ sizeLine := by
      rcases h with ⟨o, h⟩ | ⟨o, its, n, _, _, _, _, hz, rv⟩
      · exact l1.1 _ _ (.inr ⟨o, h⟩)
      · have := rv.length
        simp only [Array.length_toList] at this
        omega
    refine ⟨q, vs, rfl, .inl ⟨sq Ext0.refl, fun l' => p W1 H1 _ Ext.refl rel1 ⟨fun W' H' M' x c l2 i hi => ⟨fun d hd => ?_, fun hi => ?_⟩, by rw [lenp, r.length]; exact hz⟩ l1⟩⟩
    · obtain ⟨d1, d2, e1, e2, rfl⟩ := pairUp_at _ _ _ _ hd
      obtain ⟨_, rfl⟩ := upFrom_at _ _ _ _ e1
      obtain ⟨w, hw, rw'⟩ := r.get e2
      refine ⟨⟨vs, w, sq x, hw⟩, fun y H'' hy => ?_⟩
      obtain ⟨T, y, rfl, hT, rfl, hy⟩ := hy
      rw [show (0 : Int) + (i : Int) = (i : Int) by omega]
      exact new_pair c l2 hT (.int _) (reps_at (r.mono x) e2 (hy vs (sq x)))
    · exact ⟨vs, sq x, by rw [hi, lenp, r.length]; exact Nat.le_refl _⟩
  | _ => exact False.elim p
end
end J
namespace J
open PySem PySem.Spec L2

section
variable {G : Gm} {Wx : WX} {W0 W W1 W' : Wd} {H0 H H1 H' : Hp} {σ : L2.St} {E : Env} {M M1 : Mem} {d : D} {v : V} {ds : List D}
/-! ### a list that grows aside -/
/-- p is nobody's: not a cell's address, not frozen, no slot's own -/
structure Aside (W : Wd) (σ : L2.St) (E : Env) (p : Addr) : Prop where
  ph : p ∉ W.phi
  z : ¬ W.Z p
  ow : ∀ (i : Nat) c, E[i]? = some (.ow c) → σ[i]? ≠ some (some (.ref p))
theorem Ext0.aside {p : Addr} {xs ys : List V} (h : H p = some (.lst xs)) (z : ¬ W.Z p) : Ext0 W H W (upd H p (.lst ys)) := by
  have ne : ∀ a u, H a = some u → u ≠ .lst xs → a ≠ p := fun a u e n q => by subst q; rw [h] at e; exact n (Option.some.inj e).symm
  refine ⟨⟨⟨[], by simp⟩, fun _ z => z, fun a u za f r => ?_, fun a vs za e => ?_, fun a o vs e => ?_, fun a vs e => ?_, fun a C dx fs za e => ?_⟩, fun a o u e => by rw [upd_ne (ne _ _ e (by intro q; cases q))]; exact e⟩
  · have : a ≠ p := fun q => z (by rw [← q]; exact za)
    rcases r with r | ⟨o, r⟩
    · exact .inl (by rw [upd_ne this]; exact r)
    · exact .inr ⟨o, by rw [upd_ne this]; exact r⟩
  · rw [upd_ne (fun q => z (by rw [← q]; exact za))]; exact e
  · rw [upd_ne (ne _ _ e (by intro q; cases q))]; exact e
  · rw [upd_ne (ne _ _ e (by intro q; cases q))]; exact e
  · rw [upd_ne (fun q => z (by rw [← q]; exact za))]; exact e
theorem LenOk.put {p : Addr} {ys : List V} (l : LenOk H) (hy : ys.length ≤ sizeLine) : LenOk (upd H p (.lst ys)) := by
  refine ⟨fun a vs h => ?_, fun a vs h => ?_⟩
  · by_cases q : a = p
    · subst q
      rcases h with h | ⟨ob, h⟩
      · rw [upd_same] at h; cases h; exact hy
      · rw [upd_same] at h; cases h
    · refine l.1 a vs ?_
      rcases h with h | ⟨ob, h⟩
      · exact .inl (by rw [upd_ne q] at h; exact h)
      · exact .inr ⟨ob, by rw [upd_ne q] at h; exact h⟩
  · by_cases q : a = p
    · subst q
      rw [upd_same] at h; cases h
    · rw [upd_ne q] at h; exact l.2 a vs h
theorem CRel.aside {p : Addr} {xs ys : List V} (c : CRel G W H M) (h : H p = some (.lst xs)) (hp : p ∉ W.phi) (z : ¬ W.Z p) : CRel G W (upd H p (.lst ys)) M := by
  refine ⟨c.len, fun l cl a h1 h2 => ?_, c.nd, c.sep, fun a za => ?_⟩
  · have hm : a ≠ p := fun q => hp (q ▸ List.mem_of_getElem? h2)
    exact (c.cel l cl a h1 h2).mono (Ext0.aside h z) fun o ho => by rw [upd_ne hm]; exact ho
  · obtain ⟨o, e⟩ := c.zs a za
    exact ⟨o, by rw [upd_ne (fun q => z (by rw [← q]; exact za))]; exact e⟩
theorem Ext.aside {p : Addr} {xs ys : List V} (c : CRel G W1 H1 M) (x : Ext W H W1 H1) (hn : H p = none) (zs : ∀ a, W.Z a → ∃ o, H a = some o) (h : H1 p = some (.lst xs)) (z : ¬ W1.Z p) : Ext W H W1 (upd H1 p (.lst ys)) := by
  have ne : ∀ a u, H a = some u → a ≠ p := fun a u e q => by subst q; rw [hn] at e; cases e
  have x0 := x.toExt0.trans (Ext0.aside (ys := ys) h z)
  exact ⟨x0, x.fr, x.zn, fun a o e h1 h2 => by rw [upd_ne (ne _ _ e)]; exact x.keep a o e h1 h2⟩
theorem Rel.aside {p : Addr} {xs ys : List V} (r : Rel G W0 H0 W σ H E M) (hn : H0 p = none) (h : H p = some (.lst xs)) (a : Aside W σ E p) : Rel G W0 H0 W σ (upd H p (.lst ys)) E M := by
  have x := Ext0.aside (ys := ys) h a.z
  refine ⟨r.toCRel.aside h a.ph a.z, ⟨r.ext.toExt0.trans x, r.ext.fr, r.ext.zn, fun b o e h1 h2 => ?_⟩, fun i s hs => ?_, r.sz, r.own⟩
  · rw [upd_ne (fun q => by subst q; rw [hn] at e; cases e)]; exact r.ext.keep b o e h1 h2
  · have q := r.slt i s hs
    cases s with
    | un => exact True.intro
    | sh d => obtain ⟨w, e2, h2⟩ := q; exact ⟨w, e2, h2.mono x⟩
    | ow c =>
      obtain ⟨b, e2, h2, n1, n2, n3⟩ := q
      have : b ≠ p := fun q => a.ow i c hs (q ▸ e2)
      exact ⟨b, e2, h2.mono x fun o ho => by rw [upd_ne this]; exact ho, n1, n2, n3⟩
theorem Aside.ext {p : Addr} (a : Aside W σ E p) (x : Ext W H W1 H1) (h : H p = some (.lst [])) : True := trivial
theorem Aside.mono {p : Addr} {o : HO} (a : Aside W σ E p) (x : Ext W H W1 H1) (h : H p = some o) : Aside W1 σ E p := by
  refine ⟨fun q => ?_, fun q => ?_, a.ow⟩
  · rcases x.fr p q with q | q
    · exact a.ph q
    · rw [h] at q; cases q
  · rcases x.zn p q with q | q
    · exact a.z q
    · rw [h] at q; cases q
theorem Aside.new {p : Addr} (r : Rel G W0 H0 W σ H E M) (h : H p = none) : Aside W σ E p := by
  refine ⟨fun q => ?_, fun q => ?_, fun i c hs q => ?_⟩
  · obtain ⟨o, e⟩ := r.isS q
    rw [h] at e; cases e
  · obtain ⟨o, e⟩ := r.zs p q
    rw [h] at e; cases e
  · obtain ⟨b, e2, h2, _⟩ := r.slt i _ hs
    rw [q] at e2; cases e2
    obtain ⟨o, e⟩ := h2.isS
    rw [h] at e; cases e
end

section
variable {X : Cx} {ct : List (Str × List Str)} {Wx : WX} {e a b c tg iter elt : Expr} {es ifs : List Expr} {f f1 f2 f3 : CE} {it g : CA} {t t1 t2 : CT} {pos p2 : Pos} {rest : List Expr} {x y : Str} {p p' : Pos}
/-- the tests of a comprehension -/
abbrev PTsf (X : Cx) (ct : List (Str × List Str)) (Wx : WX) (ifs : List Expr) (t : CT) : Prop := PTs X ifs (tT (Gx X ct) Wx t)
theorem ptsf_nil : PTsf X ct Wx [] tYes := ⟨fun pins s σ H Q I h => by
  obtain ⟨W0, H0, W, E, M, rel, p⟩ := h
  exact pts_nil.run pins s σ H Q I (p W H true Ext.refl rel rfl (lenOk_of I))⟩
theorem ptsf_one (h : PTf X ct Wx c t) : PTsf X ct Wx [c] t := pts_one h

theorem R_assoc {α β γ : Type} (r : R α) (k : α → Mem → R β) (k2 : β → Mem → R γ) : (r.bind k).bind k2 = r.bind fun d M => (k d M).bind k2 := by cases r <;> rfl

theorem wipe_in {i : Nat} : ∀ {vs : List Nat} {σ : L2.St}, i ∈ vs → i < σ.length → (L2.wipe σ vs)[i]? = some none
  | [], _, h, _ => by cases h
  | v :: vs, σ, h, hl => by
    unfold L2.wipe
    by_cases e : v = i
    · subst e
      exact List.getElem?_set_self (by rw [wipe_length]; exact hl)
    · rw [List.getElem?_set_ne e]
      rcases List.mem_cons.mp h with z | z
      · exact (e z.symm).elim
      · exact wipe_in z hl
theorem wipe_wipe (σ : L2.St) (vs : List Nat) : L2.wipe (L2.wipe σ vs) vs = L2.wipe σ vs := by
  apply List.ext_getElem?
  intro j
  by_cases m : j ∈ vs
  · by_cases hl : j < σ.length
    · rw [wipe_in m hl, wipe_in m (by rw [wipe_length]; exact hl)]
    · rw [List.getElem?_eq_none (by rw [wipe_length, wipe_length]; omega), List.getElem?_eq_none (by rw [wipe_length]; omega)]
  · rw [wipe_out m]
/-- a new object, nobody's yet -/
def RpN (G : Gm) (σ : L2.St) (E : Env) (H : Hp) : Wd → Hp → D → V → Prop := fun W' H' d v => ∃ a c, d = Cell.tree c ∧ v = .ref a ∧ CellOk G W' H' a c ∧ Aside W' σ E a ∧ H a = none
def tN (G : Gm) (Wx : WX) (f : CE) : TE := fun σ H Q => ∃ W0 H0 W E M, Rel G W0 H0 W σ H E M ∧ Post G Wx (RpN G σ E H) W0 H0 W H σ E (f E M) Q
abbrev PNf (X : Cx) (ct : List (Str × List Str)) (Wx : WX) (e : Expr) (f : CE) : Prop := PE X e (tN (Gx X ct) Wx f)
theorem CellOk.rep {G : Gm} {W : Wd} {H : Hp} {a : Addr} {c : Cell} (h : CellOk G W H a c) (z : W.Z a) : Rep G W H c.tree (.ref a) := by
  cases c with
  | lst ds => obtain ⟨vs, q, r⟩ := h; exact .lst z q r
  | dK ds => obtain ⟨vs, q, k, r⟩ := h; exact .dK z (.inl q) k r
  | dT ds => obtain ⟨vs, q, k, r⟩ := h; exact .dT z (.inl q) k r
  | ins c ds => obtain ⟨nm, ns, C, dx, vs, ht, hc, q, k, r⟩ := h; exact .obj z ht hc q k r
theorem Ext0.frz {W : Wd} {H : Hp} {a : Addr} : Ext0 W H (W.frz a) H := ⟨⟨⟨[], by simp⟩, fun _ z => .inl z, fun a u z f r => r, fun a vs z e => e, fun a o vs e => e, fun a xs e => e, fun a C dx fs z e => e⟩, fun a o u e => e⟩
theorem Rel.frzA {G : Gm} {W0 W : Wd} {H0 H : Hp} {σ : L2.St} {E : Env} {M : Mem} {a : Addr} (r : Rel G W0 H0 W σ H E M) (as : Aside W σ E a) (h0 : H0 a = none) (hob : ∃ o, H a = some o) : Rel G W0 H0 (W.frz a) σ H E M := by
  refine ⟨⟨r.len, fun l cl b h1 h2 => (r.cel l cl b h1 h2).mono Ext0.frz fun o h => h, r.nd, fun b h z => ?_, fun b z => ?_⟩, ⟨r.ext.toExt0.trans Ext0.frz, r.ext.fr, fun b z => ?_, r.ext.keep⟩, fun i s hs => ?_, r.sz, r.own⟩
  · rcases z with z | z
    · exact r.sep b h z
    · subst z; exact as.ph h
  · rcases z with z | z
    · exact r.zs b z
    · subst z; exact hob
  · rcases z with z | z
    · exact r.ext.zn b z
    · subst z; exact .inr h0
  · have q := r.slt i s hs
    cases s with
    | un => exact True.intro
    | sh d => obtain ⟨w, e2, h2⟩ := q; exact ⟨w, e2, h2.mono Ext0.frz⟩
    | ow c =>
      obtain ⟨b, e2, h2, n1, n2, n3⟩ := q
      refine ⟨b, e2, h2.mono Ext0.frz fun o ho => ho, n1, fun z => ?_, n3⟩
      rcases z with z | z
      · exact n2 z
      · subst z; exact as.ow i c hs e2
/-- a new object, frozen -/
theorem pf_n {f : CE} (h : PNf X ct Wx e f) : PF X ct Wx e f := by
  refine PE.fin h ?_
  rintro σ H Q l ⟨W0, H0, W, E, M, rel, p⟩
  refine ⟨W0, H0, W, E, M, rel, ?_⟩
  cases q : f E M with
  | bad => rw [q] at p; exact p
  | exc c ds M' => rw [q] at p; exact p
  | ok d M' =>
    rw [q] at p
    rintro W' H' v x r ⟨a, c, rfl, rfl, hc, as, ha⟩ l' _
    have z0 : H0 a = none := rel.toCRel.was rel.ext ha
    exact p (W'.frz a) H' _ ⟨x.toExt0.trans Ext0.frz, x.fr, fun b z => by
      rcases z with z | z
      · exact x.zn b z
      · subst z; exact .inr ha, x.keep⟩ (r.frzA as z0 hc.isS) ((hc.mono Ext0.frz fun o h => h).rep (.inr rfl)) l'
/-- the loop of a comprehension -/
theorem comp_run {W0 W1 : Wd} {H0 H1 : Hp} {σ : L2.St} {E : Env} {M1 : Mem} {ds : List D} {Jt : It} {gt : TG} {gg : CG} {is vs : List Nat} {Q : VK} {Hs : Hp}
    (hs0 : ∀ a, H1 a = none → Hs a = none) (rel1 : Rel (Gx X ct) W0 H0 W1 σ H1 E M1) (l1 : LenOk H1) (it : IterOk (Gx X ct) W1 H1 ds Jt) (hz : ds.length ≤ sizeLine) (hg : ∀ W0 H0 W σ H E M d v E' (Q : L2.St → Hp → Prop), Rel (Gx X ct) W0 H0 W σ H E M → Rep (Gx X ct) W H d v → gg d E = some E' →
      (∀ σ', Rel (Gx X ct) W0 H0 W σ' H E' M → (∀ vs, (∀ i ∈ is, i ∈ vs) → L2.wipe σ' vs = L2.wipe σ vs) → Q σ' H) → gt v σ H Q) (his : ∀ i ∈ is, i ∈ vs)
    (p : Post (Gx X ct) Wx (RpN (Gx X ct) σ E Hs) W0 H0 W1 H1 σ E ((compL vs gg t f ds E M1).bind fun ds M => .ok (.lst ds) M) Q) :
    ∀ D, H1 D = none → ∃ W : Nat → Nat → Hp → Prop, (∃ m, W 0 m (upd H1 D (.lst []))) ∧ ∀ i m H, W i m H →
      (Jt.stop i H ∧ Q (.ref D) H) ∨ (Jt.go i H ∧ ∃ Nx : Hp → Prop, (∀ H', Nx H' → ∃ m', m' < m ∧ W (i + 1) m' H') ∧ ∀ x H', Jt.yld i H x H' → gt x (L2.wipe σ vs) H' fun σ2 H2 => L2.wipe σ2 vs = L2.wipe σ vs ∧ tT (Gx X ct) Wx t σ2 H2 fun b H3 =>
        if b = true then tF (Gx X ct) Wx f σ2 H3 fun y H4 => ∃ acc, H4 D = some (.lst acc) ∧ acc.length < sizeLine ∧ Nx (upd H4 D (.lst (acc ++ [y]))) else Nx H3) := by
  intro D hD
  let Pv : Nat → Hp → Prop := fun i H' => ∃ W' M' acc es, Rel (Gx X ct) W0 H0 W' σ H' E M' ∧ Ext W1 H1 W' H' ∧ H' D = some (.lst acc) ∧ Aside W' σ E D ∧ Reps (Gx X ct) W' H' es acc ∧ acc.length ≤ i ∧ LenOk H' ∧
    compL vs gg t f ds E M1 = (compL vs gg t f (ds.drop i) E M').bind fun xs M => .ok (es ++ xs) M
  have hD0 : H0 D = none := rel1.toCRel.was rel1.ext hD
  refine ⟨fun i m H => m = ds.length - i ∧ i ≤ ds.length ∧ Pv i H, ⟨ds.length, by simp, Nat.zero_le _, ?_⟩, ?_⟩
  · have x := Ext.new (o := .lst []) rel1.toCRel hD
    refine ⟨W1, M1, [], [], rel1.after x (rel1.toCRel.new hD), x, upd_same, (Aside.new rel1 hD), .nil, Nat.le_refl _, (l1.new hD (fun _ q => by cases q; exact Nat.zero_le _) (fun _ q => nomatch q) (fun _ _ q => nomatch q)), ?_⟩
    rw [List.drop_zero]
    cases compL vs gg t f ds E M1 <;> rfl
  · rintro i m H ⟨rfl, hi, W', M', acc, es, rel, x, hDl, asd, reps, hlen, l, eq⟩
    obtain ⟨go, stop⟩ := it W' H M' x.toExt0 rel.toCRel l i hi
    by_cases hlt : i < ds.length
    · refine .inr ⟨(go ds[i] (by simp [hlt])).1, Pv (i + 1), fun H' p' => ⟨ds.length - (i + 1), by omega, rfl, hlt, p'⟩, fun xv H' hy => ?_⟩
      obtain ⟨W2, x2, c2, rep2, l2⟩ := (go ds[i] (by simp [hlt])).2 xv H' hy
      have rel2 := rel.after x2 c2
      have hdrop : ds.drop i = ds[i] :: ds.drop (i + 1) := by rw [← List.getElem_cons_drop hlt]
      rw [hdrop, compL] at eq
      cases hgd : gg ds[i] (J.wipe E vs) with
      | none =>
        rw [hgd] at eq
        rw [eq] at p
        exact False.elim p
      | some E1 =>
        rw [hgd] at eq
        dsimp only at eq
        refine hg W0 H0 W2 (L2.wipe σ vs) H' (J.wipe E vs) M' _ _ E1 _ (rel2.wipe vs) rep2 hgd fun σ2 rel3 hw => ?_
        have hw2 : L2.wipe σ2 vs = L2.wipe σ vs := by
          rw [hw vs his]
          exact wipe_wipe σ vs
        refine ⟨hw2, W0, H0, W2, E1, M', rel3, ?_⟩
        -- the tests
        cases ht : t E1 M' with
        | bad => rw [ht] at eq; rw [eq] at p; exact False.elim p
        | exc c cs m => rw [ht] at eq; rw [eq] at p; exact False.elim p
        | ok b M2 =>
          rw [ht] at eq
          try dsimp only [R.nox, R.bind] at eq
          intro W3 H3 b' x3 rel4 eb l3
          cases eb
          have rel4' : Rel (Gx X ct) W0 H0 W3 σ H3 E M2 := rel2.after x3 rel4.toCRel
          have hD2 : H' D = some (.lst acc) := x2.keep D _ hDl asd.ph asd.z
          have asd2 := asd.mono x2 hDl
          have hD3 : H3 D = some (.lst acc) := x3.keep D _ hD2 asd2.ph asd2.z
          have asd3 := asd2.mono x3 hD2
          have x13 : Ext W1 H1 W3 H3 := Ext.trans rel2.toCRel (Ext.trans rel.toCRel x x2) x3
          have reps3 := (reps.mono x2.toExt0).mono x3.toExt0
          cases b with
          | false =>
            refine iteF ⟨W3, M2, acc, es, rel4', x13, hD3, asd3, reps3, Nat.le_succ_of_le hlen, l3, ?_⟩
            rw [eq]
            rfl
          | true =>
            refine iteT ⟨W0, H0, W3, E1, M2, rel4, ?_⟩
            try dsimp only at eq
            rw [if_pos rfl] at eq
            cases hf : f E1 M2 with
            | bad => rw [hf] at eq; rw [eq] at p; exact False.elim p
            | exc c cs m => rw [hf] at eq; rw [eq] at p; exact False.elim p
            | ok d3 M3 =>
              rw [hf] at eq
              try dsimp only [R.nox, R.bind] at eq
              intro W4 H4 y x4 rel5 rep4 l4
              have rel5' : Rel (Gx X ct) W0 H0 W4 σ H4 E M3 := rel4'.after x4 rel5.toCRel
              have hD4 : H4 D = some (.lst acc) := x4.keep D _ hD3 asd3.ph asd3.z
              have asd4 := asd3.mono x4 hD3
              have x14 : Ext W1 H1 W4 H4 := Ext.trans rel4'.toCRel x13 x4
              have hlen2 : acc.length < sizeLine := by omega
              have x0 := Ext0.aside (W := W4) (ys := acc ++ [y]) hD4 asd4.z
              refine ⟨acc, hD4, hlen2, W4, M3, acc ++ [y], es ++ [d3], rel5'.aside hD0 hD4 asd4, Ext.aside rel5'.toCRel x14 hD rel1.zs hD4 asd4.z, upd_same, asd4, ((reps3.mono x4.toExt0).append (.cons rep4 .nil)).mono x0, by rw [List.length_append]; exact Nat.succ_le_succ hlen, l4.put (by rw [List.length_append]; exact hlen2), ?_⟩
              rw [eq]
              cases compL vs gg t f (List.drop (i + 1) ds) E M3 <;> simp
    · have e : i = ds.length := by omega
      subst e
      rw [List.drop_length] at eq
      refine .inl ⟨stop rfl, ?_⟩
      rw [eq] at p
      dsimp only [compL, R.bind] at p
      rw [List.append_nil] at p
      exact p _ _ _ x rel ⟨D, .lst es, rfl, rfl, ⟨acc, hDl, reps⟩, asd, hs0 D hD⟩ l

theorem PE.fin2 {X : Cx} {e : Expr} {t t' : TE} (h : PE X e t) (hw : ∀ (s : Shared) σ H Q, LenOk H → t' σ H Q → t σ H (fun v H' => LenOk H' → Q v H')) : PE X e t' :=
  ⟨fun pins s σ H Q I q => thn (h.run pins s σ H _ I (hw s σ H Q (lenOk_of I) q)) fun _ _ ⟨v, H', I', r, q'⟩ => ⟨v, H', I', r, q' (lenOk_of I')⟩⟩
theorem tLc_of {is vs : List Nat} {gg : CG} {gt : TG} {σ : L2.St} {H : Hp} {Q : VK} (hg : ∀ W0 H0 W σ H E M d v E' (Q : L2.St → Hp → Prop), Rel (Gx X ct) W0 H0 W σ H E M → Rep (Gx X ct) W H d v → gg d E = some E' →
      (∀ σ', Rel (Gx X ct) W0 H0 W σ' H E' M → (∀ vs, (∀ i ∈ is, i ∈ vs) → L2.wipe σ' vs = L2.wipe σ vs) → Q σ' H) → gt v σ H Q) (his : ∀ i ∈ is, i ∈ vs) (p : tN (Gx X ct) Wx (cComp vs it gg t f) σ H Q) :
    tLc (tI (Gx X ct) Wx it) gt (tT (Gx X ct) Wx t) (tF (Gx X ct) Wx f) vs σ H Q := by
  obtain ⟨W0, H0, W, E, M, rel, p⟩ := p
  have p : Post (Gx X ct) Wx (RpN (Gx X ct) σ E H) W0 H0 W H σ E ((it E M).bind fun ds M => (compL vs gg t f ds E M).bind fun ds M => .ok (.lst ds) M) Q := by
    dsimp only [cComp, aComp] at p
    rw [R_assoc] at p
    exact p
  refine ⟨W0, H0, W, E, M, rel, Post.bind p fun ds M1 W1 H1 J1 _ x1 rel1 p1 l1 p => ?_⟩
  exact fun D hD => comp_run (fun a h => rel1.toCRel.was x1 h) rel1 l1 p1.1 p1.2 hg his p D hD
theorem n_comp {scope : Scope} {is : List Nat} {own : List (Str × Nat)} {gg : CG} {gt : TG} (hc : X.calm = true) (hN : X.N.Nodup) (hi : PIf X ct Wx tg iter it) (ok : BlkOk X.N X.env.scope scope own)
    (hg : ∀ (s : Shared) (H : Hp) (C : Addr) (cl : List (Str × Addr)) (fp : List Addr), PGf (X.blk s H scope (compEnvC scope cl C X.env) fp) ct tg is gt gg)
    (ht : ∀ (s : Shared) (H : Hp) (C : Addr) (cl : List (Str × Addr)) (fp : List Addr), PTsf (X.blk s H scope (compEnvC scope cl C X.env) fp) ct Wx ifs t)
    (he : ∀ (s : Shared) (H : Hp) (C : Addr) (cl : List (Str × Addr)) (fp : List Addr), PF (X.blk s H scope (compEnvC scope cl C X.env) fp) ct Wx elt f) (his : ∀ i ∈ is, i ∈ own.map (·.2) := by decide) (hs : ∀ x, foldedSetIterable iter X.env x = pure x := by intro _; rfl) :
    PNf X ct Wx (.ListComp elt [⟨tg, iter, ifs, 0⟩] scope pos) (cComp (own.map (·.2)) it gg t f) := by
  have h := pe_lc (pos := pos) (tt := tT (Gx X ct) Wx t) (te := tF (Gx X ct) Wx f) hc hN hi ok (fun s H C cl fp => (hg s H C cl fp).1) ht he hs
  exact ⟨fun pins s σ H Q I p => h.run pins s σ H Q I (tLc_of (X := X) (hg s H 0 [] []).2 his p)⟩
end
end J
namespace J
open PySem PySem.Spec L2

def Dl (D : Ends) : Ends := { nx := fun σ H => LenOk H → D.nx σ H, rt := fun v H => LenOk H → D.rt v H, bk := fun σ H => LenOk H → D.bk σ H, ct := fun σ H => LenOk H → D.ct σ H }
theorem SP.dl {X : Cx} {pins : List (Addr × Obj)} {D : Ends} {f : Flow} {s' : Shared} (h : SP X pins (Dl D) f s') : SP X pins D f s' := by
  cases f with
  | next => obtain ⟨σ', H', I, q⟩ := h; exact ⟨σ', H', I, q (lenOk_of I)⟩
  | brk => obtain ⟨σ', H', I, q⟩ := h; exact ⟨σ', H', I, q (lenOk_of I)⟩
  | cont => obtain ⟨σ', H', I, q⟩ := h; exact ⟨σ', H', I, q (lenOk_of I)⟩
  | ret u => obtain ⟨v, σ', H', I, r, q⟩ := h; exact ⟨v, σ', H', I, r, q (lenOk_of I)⟩
theorem PS_fin {X : Cx} {st : Stmt} {t t' : TS} (h : PS X st t) (hw : ∀ D σ H, LenOk H → t' D σ H → t (Dl D) σ H) : PS X st t' :=
  ⟨fun pins s σ H D I q => thn (h.run pins s σ H (Dl D) I (hw D σ H (lenOk_of I) q)) fun _ _ q => SP.dl q⟩
theorem PSs_fin {X : Cx} {st : List Stmt} {t t' : TS} (h : PSs X st t) (hw : ∀ D σ H, LenOk H → t' D σ H → t (Dl D) σ H) : PSs X st t' :=
  ⟨fun pins s σ H D I q => thn (h.run pins s σ H (Dl D) I (hw D σ H (lenOk_of I) q)) fun _ _ q => SP.dl q⟩

section
variable (G : Gm) (Wx : WX)
def EndF (D : Ends) (W' : Wd) (σ' : L2.St) (H' : Hp) : Fl → Prop
  | .nx => D.nx σ' H'
  | .bk => D.bk σ' H'
  | .ct => D.ct σ' H'
  | .rt d => ∀ v, Rep G W' H' d v → D.rt v H'
  | .ex c ds => ∀ C o, ExcOk G W' H' c ds C o → Wx (.ref C) o σ' H'
def PostS (W0 : Wd) (H0 : Hp) (W : Wd) (H : Hp) (r : R (Fl × Env)) (D : Ends) : Prop :=
  match r with
  | .ok a M' => ∀ W' σ' H', Ext0 W H W' H' → Rel G W0 H0 W' σ' H' a.2 M' → LenOk H' → EndF G Wx D W' σ' H' a.1
  | _ => False
def tS (f : CS) : TS := fun D σ H => ∃ W0 H0 W E M, Rel G W0 H0 W σ H E M ∧ PostS G Wx W0 H0 W H (f E M) D
end

section
variable {G : Gm} {Wx : WX} {W0 W W1 W' : Wd} {H0 H H1 H' : Hp} {σ σ1 : L2.St} {E E1 : Env} {M M1 : Mem} {d : D} {v : V} {ds : List D} {D : Ends}
theorem PostS.step {r : R (Fl × Env)} (x : Ext0 W H W1 H1) (h : PostS G Wx W0 H0 W H r D) : PostS G Wx W0 H0 W1 H1 r D := by
  cases r with
  | ok a M' => exact fun W' σ' H' x' r' l' => h W' σ' H' (x.trans x') r' l'
  | exc c ds M' => exact h
  | bad => exact h
theorem EndF.dl {fl : Fl} (l : LenOk H') (h : EndF G Wx D W' σ H' fl) : EndF G Wx (Dl D) W' σ H' fl := by
  cases fl with
  | nx => exact fun _ => h
  | bk => exact fun _ => h
  | ct => exact fun _ => h
  | rt d => exact fun v r _ => h v r
  | ex c ds => exact h
theorem PostS.dl {r : R (Fl × Env)} (h : PostS G Wx W0 H0 W H r D) : PostS G Wx W0 H0 W H r (Dl D) := by
  cases r with
  | ok a M' => exact fun W' σ' H' x r l => (h W' σ' H' x r l).dl l
  | exc c ds M' => exact h
  | bad => exact h
/-- an expression first -/
theorem PostS.bindE {r : R J.D} {k : J.D → Mem → R (Fl × Env)} {Q' : VK} (h : PostS G Wx W0 H0 W H (r.st E k) D)
    (hk : ∀ d M1 W1 H1 v, r = .ok d M1 → Ext W H W1 H1 → Rel G W0 H0 W1 σ H1 E M1 → Rep G W1 H1 d v → LenOk H1 → PostS G Wx W0 H0 W1 H1 (k d M1) D → Q' v H1) : Post G Wx (fun W' H' => Rep G W' H') W0 H0 W H σ E r Q' := by
  cases r with
  | ok d M1 => exact fun W' H' v x r p l => hk d M1 W' H' v rfl x r p l (h.step x.toExt0)
  | exc c ds M1 => exact fun W' H' C o x r p l => h W' σ H' x.toExt0 r l C o p
  | bad => exact h
/-- a test first -/
theorem PostS.bindT {r : R Bool} {k : Bool → Mem → R (Fl × Env)} {Q' : Bool → Hp → Prop} (h : PostS G Wx W0 H0 W H (r.stB E k) D)
    (hk : ∀ d M1 W1 H1, r = .ok d M1 → Ext W H W1 H1 → Rel G W0 H0 W1 σ H1 E M1 → LenOk H1 → PostS G Wx W0 H0 W1 H1 (k d M1) D → Q' d H1) : Post G Wx RpB W0 H0 W H σ E r Q' := by
  cases r with
  | ok d M1 => exact fun W' H' v x r p l => by cases p; exact hk d M1 W' H' rfl x r l (h.step x.toExt0)
  | exc c ds M1 => exact fun W' H' C o x r p l => h W' σ H' x.toExt0 r l C o p
  | bad => exact h
/-- a list first -/
theorem PostS.bindA {β : Type} {Rp : Wd → Hp → List J.D → β → Prop} {r : R (List J.D)} {k : List J.D → Mem → R (Fl × Env)} {Q' : β → Hp → Prop} (h : PostS G Wx W0 H0 W H (r.stA E k) D)
    (hk : ∀ d M1 W1 H1 v, r = .ok d M1 → Ext W H W1 H1 → Rel G W0 H0 W1 σ H1 E M1 → Rp W1 H1 d v → LenOk H1 → PostS G Wx W0 H0 W1 H1 (k d M1) D → Q' v H1) : Post G Wx Rp W0 H0 W H σ E r Q' := by
  cases r with
  | ok d M1 => exact fun W' H' v x r p l => hk d M1 W' H' v rfl x r p l (h.step x.toExt0)
  | exc c ds M1 => exact fun W' H' C o x r p l => h W' σ H' x.toExt0 r l C o p
  | bad => exact h
/-- a statement first: the ends of a block -/
theorem PostS.seq {r : R (Fl × Env)} {k : CS} (h : PostS G Wx W0 H0 W H (match r with | .ok (.nx, E) M => k E M | r => r) D) :
    PostS G Wx W0 H0 W H r { D with nx := tS G Wx k D } := by
  cases r with
  | ok a M' =>
    obtain ⟨fl, E'⟩ := a
    cases fl with
    | nx => exact fun W' σ' H' x r l => ⟨W0, H0, W', E', M', r, h.step x⟩
    | bk => exact fun W' σ' H' x r l => h W' σ' H' x r l
    | ct => exact fun W' σ' H' x r l => h W' σ' H' x r l
    | rt d => exact fun W' σ' H' x r l => h W' σ' H' x r l
    | ex c ds => exact fun W' σ' H' x r l => h W' σ' H' x r l
  | exc c ds M' => exact h
  | bad => exact h
end

section
variable {X : Cx} {ct : List (Str × List Str)} {Wx : WX} {e a b c tg iter : Expr} {es : List Expr} {f f1 f2 : CE} {it g : CA} {t t1 t2 : CT} {pos p p' : Pos} {x y : Str} {st : Stmt} {sts ss1 ss2 : List Stmt} {s s1 s2 : CS}
abbrev PSf (X : Cx) (ct : List (Str × List Str)) (Wx : WX) (st : Stmt) (s : CS) : Prop := PS X st (tS (Gx X ct) Wx s)
abbrev PSsf (X : Cx) (ct : List (Str × List Str)) (Wx : WX) (sts : List Stmt) (s : CS) : Prop := PSs X sts (tS (Gx X ct) Wx s)
theorem ss_nil : PSsf X ct Wx [] sNil := by
  refine PSs_fin pss_nil ?_
  rintro D σ H l ⟨W0, H0, W, E, M, rel, p⟩
  exact fun l' => p W σ H Ext0.refl rel l
theorem ss_cons (h1 : PSf X ct Wx st s1) (h2 : PSsf X ct Wx sts s2) : PSsf X ct Wx (st :: sts) (sSeq s1 s2) := by
  refine PSs_fin (pss_cons h1 h2) ?_
  rintro D σ H l ⟨W0, H0, W, E, M, rel, p⟩
  exact ⟨W0, H0, W, E, M, rel, PostS.seq p.dl⟩
theorem ss_one (h1 : PSf X ct Wx st s1) : PSsf X ct Wx [st] s1 := pss_one h1
theorem s_pass : PSf X ct Wx (.Pass pos) sNil := by
  refine PS_fin ps_pass ?_
  rintro D σ H l ⟨W0, H0, W, E, M, rel, p⟩
  exact fun l' => p W σ H Ext0.refl rel l
theorem s_doc {j} : PSf X ct Wx (.Expr (.Constant (.str x) j p) p') sNil := by
  refine PS_fin ps_doc ?_
  rintro D σ H l ⟨W0, H0, W, E, M, rel, p⟩
  exact fun l' => p W σ H Ext0.refl rel l
theorem s_break : PSf X ct Wx (.Break pos) sBreak := by
  refine PS_fin ps_break ?_
  rintro D σ H l ⟨W0, H0, W, E, M, rel, p⟩
  exact fun l' => p W σ H Ext0.refl rel l
theorem s_cont : PSf X ct Wx (.Continue pos) sCont := by
  refine PS_fin ps_continue ?_
  rintro D σ H l ⟨W0, H0, W, E, M, rel, p⟩
  exact fun l' => p W σ H Ext0.refl rel l
theorem s_never : PSf X ct Wx st sNever := ⟨fun _ _ _ _ _ _ h => by obtain ⟨W0, H0, W, E, M, rel, p⟩ := h; exact p.elim⟩
theorem ss_never : PSsf X ct Wx sts sNever := ⟨fun _ _ _ _ _ _ h => by obtain ⟨W0, H0, W, E, M, rel, p⟩ := h; exact p.elim⟩
theorem s_expr (he : PF X ct Wx e f) (hs : swapsWith e none pos.line X.env = pure false := by rfl) : PSf X ct Wx (.Expr e pos) (sExpr f) := by
  refine PS_fin (ps_expr he hs) ?_
  rintro D σ H l ⟨W0, H0, W, E, M, rel, p⟩
  refine ⟨W0, H0, W, E, M, rel, p.bindE fun d M1 W1 H1 v _ x1 rel1 r1 l1 p => ?_⟩
  exact fun l' => p W1 σ H1 Ext0.refl rel1 l1
theorem s_ret (he : PF X ct Wx e f) : PSf X ct Wx (.Return (some e) pos) (sRet f) := by
  refine PS_fin (ps_ret he) ?_
  rintro D σ H l ⟨W0, H0, W, E, M, rel, p⟩
  refine ⟨W0, H0, W, E, M, rel, p.bindE fun d M1 W1 H1 v _ x1 rel1 r1 l1 p => ?_⟩
  exact fun l' => p W1 σ H1 Ext0.refl rel1 l1 v r1
theorem s_retN : PSf X ct Wx (.Return none pos) sRetN := by
  refine PS_fin ps_retN ?_
  rintro D σ H l ⟨W0, H0, W, E, M, rel, p⟩
  exact fun l' => p W σ H Ext0.refl rel l .non .non
theorem s_if (hc : PTf X ct Wx c t) (h1 : PSsf X ct Wx ss1 s1) (h2 : PSsf X ct Wx ss2 s2) : PSf X ct Wx (.If c ss1 ss2 pos) (sIf t s1 s2) := by
  refine PS_fin (ps_if hc h1 h2) ?_
  rintro D σ H l ⟨W0, H0, W, E, M, rel, p⟩
  refine ⟨W0, H0, W, E, M, rel, p.bindT fun d M1 W1 H1 _ x1 rel1 l1 p => ?_⟩
  cases d with
  | true => exact iteT ⟨W0, H0, W1, E, M1, rel1, p.dl⟩
  | false => exact iteF ⟨W0, H0, W1, E, M1, rel1, p.dl⟩
/-- a value into a target -/
theorem asg_end {W0 W1 : Wd} {H0 H1 : Hp} {σ : L2.St} {E : Env} {M1 : Mem} {D : Ends} {d : J.D} {v : V} {gt : TG} {gg : CG} {is : List Nat}
    (hg : ∀ W0 H0 W σ H E M d v E' (Q : L2.St → Hp → Prop), Rel (Gx X ct) W0 H0 W σ H E M → Rep (Gx X ct) W H d v → gg d E = some E' → (∀ σ', Rel (Gx X ct) W0 H0 W σ' H E' M → (∀ vs, (∀ i ∈ is, i ∈ vs) → L2.wipe σ' vs = L2.wipe σ vs) → Q σ' H) → gt v σ H Q)
    (rel1 : Rel (Gx X ct) W0 H0 W1 σ H1 E M1) (r1 : Rep (Gx X ct) W1 H1 d v) (l1 : LenOk H1) (p : PostS (Gx X ct) Wx W0 H0 W1 H1 (match gg d E with | some E => R.ok (Fl.nx, E) M1 | none => .bad) D) : gt v σ H1 (Dl D).nx := by
  cases q : gg d E with
  | none => rw [q] at p; exact p.elim
  | some E1 =>
    rw [q] at p
    exact hg W0 H0 W1 σ H1 E M1 d v E1 _ rel1 r1 q fun σ' rel2 _ _ => p W1 σ' H1 Ext0.refl rel2 l1
theorem s_set (i : Nat) (hN : X.N.Nodup) (he : PF X ct Wx e f) (hi : X.N[i]? = some x := by rfl) (hx : Loc X.env.scope x := by first | exact .inl rfl | exact .inr rfl) (hs : swapsWith e (some (.Name x p')) pos.line X.env = pure false := by rfl) (hf : X.fn x = true ∨ X.env.scope.names.lookup x = some .local := by first | exact .inl rfl | exact .inr rfl | assumption) : PSf X ct Wx (.Assign [.Name x p'] e pos) (sAsg (gN i) f) := by
  refine PS_fin (ps_set hN hi hx he hs hf) ?_
  rintro D σ H l ⟨W0, H0, W, E, M, rel, p⟩
  refine ⟨W0, H0, W, E, M, rel, p.bindE fun d M1 W1 H1 v _ x1 rel1 r1 l1 p => ?_⟩
  exact asg_end (pg_n (X := X) (ct := ct) (pos := p') i hN hi hx hf).2 rel1 r1 l1 p
theorem s_asg {is : List Nat} {gt : TG} {gg : CG} (he : PF X ct Wx e f) (hg : PGf X ct tg is gt gg) (hs : swapsWithSole [tg] e pos.line X.env = pure false := by rfl) (hw : swappedStores [tg] e X.env = pure none := by rfl)
    (h1 : (assignEach [tg] X.env).map (·.2) = [assign tg X.env] := by rfl) : PSf X ct Wx (.Assign [tg] e pos) (sAsg gg f) := by
  refine PS_fin (ps_asg he hg.1 hs hw h1) ?_
  rintro D σ H l ⟨W0, H0, W, E, M, rel, p⟩
  refine ⟨W0, H0, W, E, M, rel, p.bindE fun d M1 W1 H1 v _ x1 rel1 r1 l1 p => ?_⟩
  exact asg_end hg.2 rel1 r1 l1 p

theorem Ext0.step {W W1 : Wd} {H H1 : Hp} (a : Ext W H W1 H1) : Ext0 W H W1 H1 := a.toExt0
/-- a for loop -/
theorem for_run {W0 W1 : Wd} {H0 H1 : Hp} {σ : L2.St} {E : Env} {M1 : Mem} {D : Ends} {ds : List J.D} {Jt : It} {gt : TG} {gg : CG} {is : List Nat}
    (hg : ∀ W0 H0 W σ H E M d v E' (Q : L2.St → Hp → Prop), Rel (Gx X ct) W0 H0 W σ H E M → Rep (Gx X ct) W H d v → gg d E = some E' → (∀ σ', Rel (Gx X ct) W0 H0 W σ' H E' M → (∀ vs, (∀ i ∈ is, i ∈ vs) → L2.wipe σ' vs = L2.wipe σ vs) → Q σ' H) → gt v σ H Q)
    (rel1 : Rel (Gx X ct) W0 H0 W1 σ H1 E M1) (l1 : LenOk H1) (it : IterOk (Gx X ct) W1 H1 ds Jt) (p : PostS (Gx X ct) Wx W0 H0 W1 H1 (forL gg s ds E M1) D) :
    ∃ W : Nat → Nat → L2.St → Hp → Prop, (∃ m, W 0 m σ H1) ∧ ∀ i m σ H, W i m σ H →
      (Jt.stop i H ∧ (Dl D).nx σ H) ∨ (Jt.go i H ∧ ∃ N : L2.St → Hp → Prop, (∀ σ' H', N σ' H' → ∃ m', m' < m ∧ W (i + 1) m' σ' H') ∧ ∀ x H', Jt.yld i H x H' → gt x σ H' fun σ2 H2 => tS (Gx X ct) Wx s { Dl D with nx := N, ct := N, bk := (Dl D).nx } σ2 H2) := by
  let Pv : Nat → L2.St → Hp → Prop := fun i σ' H' => ∃ W' E' M', Rel (Gx X ct) W0 H0 W' σ' H' E' M' ∧ Ext0 W1 H1 W' H' ∧ LenOk H' ∧ PostS (Gx X ct) Wx W0 H0 W' H' (forL gg s (ds.drop i) E' M') D
  refine ⟨fun i m σ H => m = ds.length - i ∧ i ≤ ds.length ∧ Pv i σ H, ⟨ds.length, by simp, Nat.zero_le _, W1, E, M1, rel1, Ext0.refl, l1, p⟩, ?_⟩
  rintro i m σ H ⟨rfl, hi, W', E', M', rel, x, l, p⟩
  obtain ⟨go, stop⟩ := it W' H M' x rel.toCRel l i hi
  by_cases hlt : i < ds.length
  · refine .inr ⟨(go ds[i] (by simp [hlt])).1, Pv (i + 1), fun σ' H' p' => ⟨ds.length - (i + 1), by omega, rfl, hlt, p'⟩, fun xv H' hy => ?_⟩
    obtain ⟨W2, x2, c2, rep2, l2⟩ := (go ds[i] (by simp [hlt])).2 xv H' hy
    have rel2 := rel.after x2 c2
    have hdrop : ds.drop i = ds[i] :: ds.drop (i + 1) := by rw [← List.getElem_cons_drop hlt]
    rw [hdrop, forL] at p
    cases hgd : gg ds[i] E' with
    | none => rw [hgd] at p; exact p.elim
    | some E1 =>
      rw [hgd] at p
      dsimp only at p
      refine hg W0 H0 W2 σ H' E' M' _ _ E1 _ rel2 rep2 hgd fun σ2 rel3 _ => ⟨W0, H0, W2, E1, M', rel3, ?_⟩
      have x12 := x.trans x2.toExt0
      have p := p.step x2.toExt0
      cases hs : s E1 M' with
      | bad => rw [hs] at p; exact p.elim
      | exc c ds M => rw [hs] at p; exact p.elim
      | ok a M3 =>
        rw [hs] at p
        obtain ⟨fl, E3⟩ := a
        cases fl with
        | nx => exact fun W' σ' H' x' r' l' => ⟨W', E3, M3, r', x12.trans x', l', p.step x'⟩
        | ct => exact fun W' σ' H' x' r' l' => ⟨W', E3, M3, r', x12.trans x', l', p.step x'⟩
        | bk => exact fun W' σ' H' x' r' l' _ => p W' σ' H' x' r' l'
        | rt d => exact fun W' σ' H' x' r' l' v hv _ => p W' σ' H' x' r' l' v hv
        | ex c ds => exact fun W' σ' H' x' r' l' => p W' σ' H' x' r' l'
  · have e : i = ds.length := by omega
    subst e
    rw [List.drop_length] at p
    exact .inl ⟨stop rfl, fun _ => p W' σ H Ext0.refl rel l⟩
theorem s_for {is : List Nat} {gt : TG} {gg : CG} (hp : PassesOwn (model X.prog X.w) X.A X.env X.xe) (hc : X.calm = true) (hi : PIf X ct Wx tg iter it) (hg : PGf X ct tg is gt gg) (hb : PSsf X ct Wx sts s) (hs : ∀ x, foldedSetIterable iter X.env x = pure x := by intro _; rfl) : PSf X ct Wx (.For tg iter sts [] pos) (sFor it gg s) := by
  refine PS_fin (ps_for hp hc hi hg.1 hb hs) ?_
  rintro D σ H l ⟨W0, H0, W, E, M, rel, p⟩
  refine ⟨W0, H0, W, E, M, rel, PostS.bindA p fun d M1 W1 H1 v _ x1 rel1 r1 l1 p => ?_⟩
  exact for_run hg.2 rel1 l1 r1.1 p
theorem s_while (hp : PassesOwn (model X.prog X.w) X.A X.env X.xe) (hc : PTf X ct Wx c t) (hb : PSsf X ct Wx sts s) (n : Nat) : PSf X ct Wx (.While c sts [] pos) (whileN t s n) := by
  refine PS_fin (ps_while hp hc hb) ?_
  rintro D σ H l ⟨W0, H0, W, E, M, rel, p⟩
  refine ⟨fun m σ H => LenOk H ∧ ∃ W E M, Rel (Gx X ct) W0 H0 W σ H E M ∧ PostS (Gx X ct) Wx W0 H0 W H (whileN t s m E M) D, ⟨n, l, W, E, M, rel, p⟩, ?_⟩
  rintro m σ H ⟨l, W, E, M, rel, p⟩
  cases m with
  | zero => exact p.elim
  | succ m =>
    rw [whileN] at p
    refine ⟨W0, H0, W, E, M, rel, p.bindT fun d M1 W1 H1 _ x1 rel1 l1 p => ?_⟩
    cases d with
    | false => exact iteF fun _ => p W1 σ H1 Ext0.refl rel1 l1
    | true =>
      refine iteT ⟨fun σ' H' => LenOk H' ∧ ∃ W E M, Rel (Gx X ct) W0 H0 W σ' H' E M ∧ PostS (Gx X ct) Wx W0 H0 W H' (whileN t s m E M) D, fun σ' H' h => ⟨m, Nat.lt_succ_self m, h⟩, W0, H0, W1, E, M1, rel1, ?_⟩
      rw [if_pos rfl] at p
      cases hs : s E M1 with
      | bad => rw [hs] at p; exact p.elim
      | exc c ds M => rw [hs] at p; exact p.elim
      | ok a M3 =>
        rw [hs] at p
        obtain ⟨fl, E3⟩ := a
        cases fl with
        | nx => exact fun W' σ' H' x' r' l' => ⟨l', W', E3, M3, r', p.step x'⟩
        | ct => exact fun W' σ' H' x' r' l' => ⟨l', W', E3, M3, r', p.step x'⟩
        | bk => exact fun W' σ' H' x' r' l' _ => p W' σ' H' x' r' l'
        | rt d => exact fun W' σ' H' x' r' l' v hv _ => p W' σ' H' x' r' l' v hv
        | ex c ds => exact fun W' σ' H' x' r' l' => p W' σ' H' x' r' l'
end
end J
namespace J
open PySem PySem.Spec L2

/-! ### new objects into slots, cells -/
@[simp] def cellOf : D → Option Cell
  | .lst ds => some (.lst ds)
  | .dK kvs => some (.dK kvs)
  | .dT kvs => some (.dT kvs)
  | .obj c ds => some (.ins c ds)
  | _ => none
theorem cellOf_tree (c : Cell) : cellOf c.tree = some c := by cases c <;> rfl
@[simp] def R.stG {α : Type} (E : Env) (r : R α) (k : α → Mem → R (Fl × Env)) : R (Fl × Env) := match r with
  | .ok d M => k d M
  | .exc c ds M => .ok (.ex c ds, E) M
  | .bad => .bad
/-- a new object into an own slot -/
@[simp] def sOwn (i : Nat) (f : CE) : CS := fun E M => (f E M).stG E fun d M => match cellOf d with
  | some c => .ok (.nx, E.set i (.ow c)) M
  | none => .bad
/-- a new object as a cell -/
@[simp] def cNew (f : CE) : CE := fun E M => (f E M).bind fun d M => match cellOf d with
  | some c => .ok (.loc M.length) (M ++ [c])
  | none => .bad
/-- a frame's own cell becomes a common one -/
@[simp] def sPub (i : Nat) : CS := fun E M => match E[i]? with
  | some (.ow c) => .ok (.nx, E.set i (.sh (.loc M.length))) (M ++ [c])
  | _ => .bad

inductive RK where
  | own (i : Nat)
  | loc (l : Nat)
abbrev CR := Env → Mem → R RK
@[simp] def rOwn (i : Nat) : CR := fun E M => match E[i]? with | some (.ow _) => .ok (.own i) M | _ => .bad
@[simp] def rLoc (f : CE) : CR := fun E M => (f E M).bind fun d M => match d with | .loc l => .ok (.loc l) M | _ => .bad
@[simp] def RK.get : RK → Env → Mem → Option Cell
  | .own i, E, _ => match E[i]? with | some (.ow c) => some c | _ => none
  | .loc l, _, M => M[l]?
@[simp] def RK.putE : RK → Cell → Env → Env
  | .own i, c, E => E.set i (.ow c)
  | .loc _, _, E => E
@[simp] def RK.putM : RK → Cell → Mem → Mem
  | .own _, _, M => M
  | .loc l, c, M => M.set l c
/-- the cell is written -/
@[simp] def upK (k : RK) (o : Option Cell) (E : Env) (M : Mem) : R (Fl × Env) := match o with
  | some c => .ok (.nx, k.putE c E) (k.putM c M)
  | none => .bad
@[simp] def kApp (d : D) : Cell → Option Cell
  | .lst ds => if ds.length < sizeMax then some (.lst (ds ++ [d])) else none
  | _ => none
@[simp] def kExt (es : List D) : Cell → Option Cell
  | .lst ds => if ds.length + es.length ≤ sizeMax then some (.lst (ds ++ es)) else none
  | _ => none
@[simp] def kSetL (k d : D) : Cell → Option Cell
  | .lst ds => match k with
    | .int i => (ixN ds.length i).map fun j => .lst (ds.set j d)
    | _ => none
  | _ => none
@[simp] def kPut (k d : D) : Cell → Option Cell
  | .dK kvs => if kvs.length < sizeMax then (keyOf k).map fun k => .dK (put kvs k d) else none
  | .dT kvs => match k with
    | .tup ks => if kvs.length < sizeMax then (keysOf ks).map fun k => .dT (put kvs k d) else none
    | _ => none
  | _ => none
@[simp] def kFld (n j : Nat) (d : D) : Cell → Option Cell
  | .ins c ds => if c = n then (if j < ds.length then some (.ins c (ds.set j d)) else if j = ds.length then some (.ins c (ds ++ [d])) else none) else none
  | _ => none
/-- r.append(f) -/
@[simp] def sApp (r : CR) (f : CE) : CS := fun E M => (r E M).stG E fun k M => match k.get E M with
  | some (.lst _) => (f E M).stG E fun d M => upK k ((k.get E M).bind (kApp d)) E M
  | _ => .bad
/-- r.extend(f) -/
@[simp] def sExt (r : CR) (f : CE) : CS := fun E M => (r E M).stG E fun k M => match k.get E M with
  | some (.lst _) => (f E M).stG E fun d M => match d with
    | .lst es => upK k ((k.get E M).bind (kExt es)) E M
    | _ => .bad
  | _ => .bad
/-- r[fi] = f -/
@[simp] def sSetL (r : CR) (fi f : CE) : CS := fun E M => (f E M).stG E fun d M => (r E M).stG E fun k M => (fi E M).stG E fun i M => upK k ((k.get E M).bind (kSetL i d)) E M
@[simp] def sPut (r : CR) (fi f : CE) : CS := fun E M => (f E M).stG E fun d M => (r E M).stG E fun k M => (fi E M).stG E fun i M => upK k ((k.get E M).bind (kPut i d)) E M
/-- r.x = f -/
@[simp] def sFld (n j : Nat) (r : CR) (f : CE) : CS := fun E M => (f E M).stG E fun d M => (r E M).stG E fun k M => upK k ((k.get E M).bind (kFld n j d)) E M

section
variable {G : Gm} {Wx : WX} {W0 W W1 W' : Wd} {H0 H H1 H' : Hp} {σ : L2.St} {E : Env} {M M1 : Mem} {d : D} {v : V} {ds : List D} {a b : Addr} {c c' : Cell} {o' : HO}

theorem CellOk.nofrz (h : CellOk G W H a c) (o : Obj) (u : HO) : H a ≠ some (.frz o u) := by
  intro q
  cases c with
  | lst ds => obtain ⟨vs, e, _⟩ := h; rw [e] at q; cases q
  | dK ds => obtain ⟨vs, e, _⟩ := h; rw [e] at q; cases q
  | dT ds => obtain ⟨vs, e, _⟩ := h; rw [e] at q; cases q
  | ins c ds => obtain ⟨nm, ns, C, dx, vs, _, _, e, _⟩ := h; rw [e] at q; cases q
theorem Ext0.put (h : CellOk G W H a c) (z : ¬ W.Z a) : Ext0 W H W (upd H a o') := by
  have nz : ∀ b, W.Z b → b ≠ a := fun b hb q => z (by rw [← q]; exact hb)
  refine ⟨⟨⟨[], by simp⟩, fun _ z => z, fun b u zb f r => ?_, fun b vs zb e => ?_, fun b o vs e => ?_, fun b vs e => ?_, fun b C dx fs zb e => ?_⟩, fun b o u e => by rw [upd_ne (fun q => by subst q; exact h.nofrz _ _ e)]; exact e⟩
  · rcases r with r | ⟨o, r⟩
    · exact .inl (by rw [upd_ne (nz b zb)]; exact r)
    · exact .inr ⟨o, by rw [upd_ne (nz b zb)]; exact r⟩
  · rw [upd_ne (nz b zb)]; exact e
  · rw [upd_ne (fun q => by subst q; exact h.nofrz _ _ e)]; exact e
  · rw [upd_ne (fun q => by subst q; exact h.notup _ e)]; exact e
  · rw [upd_ne (nz b zb)]; exact e
theorem LenOk.upd (l : LenOk H) (h1 : ∀ vs, o' = .lst vs → vs.length ≤ sizeLine) (h2 : ∀ vs, o' ≠ .tup vs) (h3 : ∀ ob u, o' ≠ .frz ob u) : LenOk (L2.upd H a o') := by
  refine ⟨fun b vs h => ?_, fun b vs h => ?_⟩
  · by_cases q : b = a
    · subst q
      rcases h with h | ⟨ob, h⟩
      · rw [upd_same] at h; exact h1 _ (Option.some.inj h)
      · rw [upd_same] at h; exact (h3 _ _ (Option.some.inj h)).elim
    · refine l.1 b vs ?_
      rcases h with h | ⟨ob, h⟩
      · exact .inl (by rw [upd_ne q] at h; exact h)
      · exact .inr ⟨ob, by rw [upd_ne q] at h; exact h⟩
  · by_cases q : b = a
    · subst q
      rw [upd_same] at h; exact (h2 _ (Option.some.inj h)).elim
    · rw [upd_ne q] at h; exact l.2 b vs h

theorem Rel.setOwn (r : Rel G W0 H0 W σ H E M) (i : Nat) (h : CellOk G W H a c) (as : Aside W σ E a) (n : H0 a = none) : Rel G W0 H0 W (σ.set i (some (.ref a))) H (E.set i (.ow c)) M := by
  have hl : ∀ {s j}, (E.set i (.ow c))[j]? = some s → (j = i ∧ s = .ow c ∧ i < E.length) ∨ (j ≠ i ∧ E[j]? = some s) := fun {s j} hs => by
    by_cases e : i = j
    · subst e
      have hl : i < E.length := by
        have := (List.getElem?_eq_some_iff.mp hs).1
        rwa [List.length_set] at this
      rw [List.getElem?_set_self hl] at hs
      exact .inl ⟨rfl, (Option.some.inj hs).symm, hl⟩
    · rw [List.getElem?_set_ne e] at hs
      exact .inr ⟨fun q => e q.symm, hs⟩
  have hs1 : i < E.length → (σ.set i (some (V.ref a)))[i]? = some (some (.ref a)) := fun h => List.getElem?_set_self (by rw [← r.sz]; exact h)
  refine ⟨r.toCRel, r.ext, fun j s hs => ?_, by rw [List.length_set, List.length_set]; exact r.sz, fun j k c1 c2 b h1 h2 h3 h4 => ?_⟩
  · rcases hl hs with ⟨rfl, rfl, q⟩ | ⟨ne, hs⟩
    · exact ⟨a, hs1 q, h, as.ph, as.z, n⟩
    · have q := r.slt j s hs
      cases s with
      | un => exact True.intro
      | sh d => obtain ⟨w, e2, h2⟩ := q; exact ⟨w, by rw [List.getElem?_set_ne (Ne.symm ne)]; exact e2, h2⟩
      | ow c => obtain ⟨b, e2, h2⟩ := q; exact ⟨b, by rw [List.getElem?_set_ne (Ne.symm ne)]; exact e2, h2⟩
  · rcases hl h1 with ⟨e1, q1, z1⟩ | ⟨n1, g1⟩
    · rcases hl h2 with ⟨e2, q2, z2⟩ | ⟨n2, g2⟩
      · rw [e1, e2]
      · exfalso
        rw [e1, hs1 z1] at h3
        rw [List.getElem?_set_ne (Ne.symm n2)] at h4
        cases h3
        exact as.ow k c2 g2 h4
    · rcases hl h2 with ⟨e2, q2, z2⟩ | ⟨n2, g2⟩
      · exfalso
        rw [e2, hs1 z2] at h4
        rw [List.getElem?_set_ne (Ne.symm n1)] at h3
        cases h4
        exact as.ow j c1 g1 h3
      · rw [List.getElem?_set_ne (Ne.symm n1)] at h3
        rw [List.getElem?_set_ne (Ne.symm n2)] at h4
        exact r.own j k c1 c2 b g1 g2 h3 h4
/-- one more cell -/
abbrev Wd.add (W : Wd) (a : Addr) : Wd := ⟨W.phi ++ [a], W.Z⟩
theorem Ext0.add : Ext0 W H (W.add a) H := ⟨⟨⟨[a], rfl⟩, fun _ z => z, fun a u z f r => r, fun a vs z e => e, fun a o vs e => e, fun a xs e => e, fun a C dx fs z e => e⟩, fun a o u e => e⟩
theorem Rel.addLoc (r : Rel G W0 H0 W σ H E M) (h : CellOk G W H a c) (as : Aside W σ E a) (n : H0 a = none) : Rel G W0 H0 (W.add a) σ H E (M ++ [c]) := by
  refine ⟨⟨by rw [List.length_append, List.length_append, r.len]; rfl, fun l cl b h1 h2 => ?_, ?_, fun b hb z => ?_, r.zs⟩, ⟨r.ext.toExt0.trans Ext0.add, fun b hb => ?_, r.ext.zn, r.ext.keep⟩, fun i s hs => ?_, r.sz, r.own⟩
  · by_cases q : l < M.length
    · rw [List.getElem?_append_left q] at h1
      rw [List.getElem?_append_left (by rw [r.len]; exact q)] at h2
      exact (r.cel l cl b h1 h2).mono Ext0.add fun o h => h
    · rw [List.getElem?_append_right (Nat.le_of_not_lt q)] at h1
      rw [List.getElem?_append_right (by rw [r.len]; exact Nat.le_of_not_lt q), r.len] at h2
      have e : l - M.length = 0 := by
        have := (List.getElem?_eq_some_iff.mp h1).1
        simp at this
        omega
      rw [e] at h1 h2
      simp at h1 h2
      subst h1 h2
      exact h.mono Ext0.add fun o h => h
  · refine List.nodup_append.mpr ⟨r.nd, by simp, fun x hx y hy => ?_⟩
    rw [List.mem_singleton.mp hy]
    intro q
    subst q
    exact as.ph hx
  · rcases List.mem_append.mp hb with q | q
    · exact r.sep b q z
    · rw [List.mem_singleton.mp q] at z; exact as.z z
  · rcases List.mem_append.mp hb with q | q
    · exact r.ext.fr b q
    · rw [List.mem_singleton.mp q]; exact .inr n
  · have q := r.slt i s hs
    cases s with
    | un => exact True.intro
    | sh d => obtain ⟨w, e2, h2⟩ := q; exact ⟨w, e2, h2.mono Ext0.add⟩
    | ow c =>
      obtain ⟨b, e2, h2, n1, n2, n3⟩ := q
      refine ⟨b, e2, h2.mono Ext0.add fun o ho => ho, fun z => ?_, n2, n3⟩
      rcases List.mem_append.mp z with q | q
      · exact n1 q
      · rw [List.mem_singleton.mp q] at e2; exact as.ow i c hs e2

/-- where a receiver lies -/
def RcvAt (W : Wd) (σ : L2.St) (E : Env) (M : Mem) (a : Addr) (c : Cell) : RK → Prop
  | .own i => E[i]? = some (.ow c) ∧ σ[i]? = some (some (.ref a))
  | .loc l => M[l]? = some c ∧ W.phi[l]? = some a
theorem RcvAt.ok {k : RK} (r : Rel G W0 H0 W σ H E M) (h : RcvAt W σ E M a c k) : CellOk G W H a c ∧ ¬ W.Z a := by
  cases k with
  | own i =>
    obtain ⟨h1, h2⟩ := h
    obtain ⟨b, e, h, n1, n2, n3⟩ := r.slt i _ h1
    rw [h2] at e; cases e
    exact ⟨h, n2⟩
  | loc l =>
    obtain ⟨h1, h2⟩ := h
    exact ⟨r.cel l c a h1 h2, r.sep a (List.mem_of_getElem? h2)⟩
theorem RcvAt.put {k : RK} (r : Rel G W0 H0 W σ H E M) (h : RcvAt W σ E M a c k) (new : CellOk G W (upd H a o') a c') : Rel G W0 H0 W σ (upd H a o') (k.putE c' E) (k.putM c' M) := by
  obtain ⟨hc, hz⟩ := h.ok r
  have x : Ext0 W H W (upd H a o') := Ext0.put hc hz
  have zs : ∀ b, W.Z b → ∃ o, upd H a o' b = some o := fun b z => by
    obtain ⟨o, e⟩ := r.zs b z
    exact ⟨o, by rw [upd_ne (fun q => hz (by rw [← q]; exact z))]; exact e⟩
  cases k with
  | own i =>
    obtain ⟨h1, h2⟩ := h
    obtain ⟨a', e, _, n1, n2, n3⟩ := r.slt i _ h1
    rw [h2] at e; cases e
    have hl : ∀ {s j}, (E.set i (.ow c'))[j]? = some s → (j = i ∧ s = .ow c') ∨ (j ≠ i ∧ E[j]? = some s) := fun {s j} hs => by
      by_cases e : i = j
      · subst e
        have hl : i < E.length := by
          have := (List.getElem?_eq_some_iff.mp hs).1
          rwa [List.length_set] at this
        rw [List.getElem?_set_self hl] at hs
        exact .inl ⟨rfl, (Option.some.inj hs).symm⟩
      · rw [List.getElem?_set_ne e] at hs
        exact .inr ⟨fun q => e q.symm, hs⟩
    have back : ∀ {j : Nat} {c2 : Cell}, (E.set i (.ow c'))[j]? = some (.ow c2) → ∃ c3 : Cell, E[j]? = some (.ow c3) := fun {j c2} hs => by
      rcases hl hs with ⟨rfl, _⟩ | ⟨_, q⟩
      · exact ⟨_, h1⟩
      · exact ⟨_, q⟩
    refine ⟨⟨r.len, fun l cl b q1 q2 => (r.cel l cl b q1 q2).mono x fun o ho => by rw [upd_ne (fun q => n1 (by rw [← q]; exact List.mem_of_getElem? q2))]; exact ho, r.nd, r.sep, zs⟩, ⟨r.ext.toExt0.trans x, r.ext.fr, r.ext.zn, fun b o q1 q2 q3 => ?_⟩, fun j s hs => ?_, by show (E.set i _).length = _; rw [List.length_set]; exact r.sz, fun j k c1 c2 b q1 q2 q3 q4 => ?_⟩
    · rw [upd_ne (fun q => by subst q; rw [n3] at q1; cases q1)]; exact r.ext.keep b o q1 q2 q3
    · rcases hl hs with ⟨rfl, rfl⟩ | ⟨ne, hs⟩
      · exact ⟨a, h2, new, n1, n2, n3⟩
      · have q := r.slt j s hs
        cases s with
        | un => exact True.intro
        | sh d => obtain ⟨w, e2, h2⟩ := q; exact ⟨w, e2, h2.mono x⟩
        | ow c2 =>
          obtain ⟨b, e2, h3, m1, m2, m3⟩ := q
          exact ⟨b, e2, h3.mono x fun o ho => by rw [upd_ne (fun q => ne (r.own j i c2 c b hs h1 e2 (by rw [q]; exact h2)))]; exact ho, m1, m2, m3⟩
    · obtain ⟨c3, b1⟩ := back q1
      obtain ⟨c4, b2⟩ := back q2
      exact r.own j k c3 c4 b b1 b2 q3 q4
  | loc l =>
    obtain ⟨h1, h2⟩ := h
    have hm : a ∈ W.phi := List.mem_of_getElem? h2
    have hl : l < M.length := (List.getElem?_eq_some_iff.mp h1).1
    refine ⟨⟨by show _ = (M.set l _).length; rw [List.length_set]; exact r.len, fun m cl b q1 q2 => ?_, r.nd, r.sep, zs⟩, ⟨r.ext.toExt0.trans x, r.ext.fr, r.ext.zn, fun b o q1 q2 q3 => ?_⟩, fun j s hs => ?_, r.sz, r.own⟩
    · have q1 : (M.set l c')[m]? = some cl := q1
      by_cases e : l = m
      · subst e
        rw [List.getElem?_set_self hl] at q1
        rw [h2] at q2
        cases q1; cases q2
        exact new
      · rw [List.getElem?_set_ne e] at q1
        refine (r.cel m cl b q1 q2).mono x fun o ho => ?_
        rw [upd_ne (fun q => ?_)]
        · exact ho
        · subst q
          obtain ⟨l1, e1⟩ := List.getElem?_eq_some_iff.mp h2
          obtain ⟨l2, e2⟩ := List.getElem?_eq_some_iff.mp q2
          exact e ((List.getElem_inj r.nd).mp (e1.trans e2.symm))
    · refine (upd_ne (fun q => ?_)).trans (r.ext.keep b o q1 q2 q3)
      subst q
      rcases r.ext.fr b hm with z | z
      · exact q2 z
      · rw [q1] at z; cases z
    · have q := r.slt j s hs
      cases s with
      | un => exact True.intro
      | sh d => obtain ⟨w, e2, h2⟩ := q; exact ⟨w, e2, h2.mono x⟩
      | ow c2 =>
        obtain ⟨b, e2, h3, m1, m2, m3⟩ := q
        exact ⟨b, e2, h3.mono x fun o ho => by rw [upd_ne (fun q => m1 (by rw [q]; exact hm))]; exact ho, m1, m2, m3⟩
/-- anything first -/
theorem PostS.bindG {α β : Type} {Rp : Wd → Hp → α → β → Prop} {r : R α} {k : α → Mem → R (Fl × Env)} {D : Ends} {Q' : β → Hp → Prop} (h : PostS G Wx W0 H0 W H (r.stG E k) D)
    (hk : ∀ d M1 W1 H1 v, r = .ok d M1 → Ext W H W1 H1 → Rel G W0 H0 W1 σ H1 E M1 → Rp W1 H1 d v → LenOk H1 → PostS G Wx W0 H0 W1 H1 (k d M1) D → Q' v H1) : Post G Wx Rp W0 H0 W H σ E r Q' := by
  cases r with
  | ok d M1 => exact fun W' H' v x r p l => hk d M1 W' H' v rfl x r p l (h.step x.toExt0)
  | exc c ds M1 => exact fun W' H' C o x r p l => h W' σ H' x.toExt0 r l C o p
  | bad => exact h
/-- a receiver's value -/
def RpR (G : Gm) (σ : L2.St) : Wd → Hp → RK → V → Prop := fun W' H' k v => match k with
  | .own i => σ[i]? = some (some v)
  | .loc l => Rep G W' H' (.loc l) v
def tR (G : Gm) (Wx : WX) (f : CR) : TE := fun σ H Q => ∃ W0 H0 W E M, Rel G W0 H0 W σ H E M ∧ Post G Wx (RpR G σ) W0 H0 W H σ E (f E M) Q
theorem RpR.mono {k : RK} (x : Ext0 W H W' H') (h : RpR G σ W H k v) : RpR G σ W' H' k v := by
  cases k with
  | own i => exact h
  | loc l => exact Rep.mono x h
theorem RpR.at {k : RK} (r : Rel G W0 H0 W σ H E M) (h : RpR G σ W H k v) (g : k.get E M = some c) : ∃ a, v = .ref a ∧ RcvAt W σ E M a c k := by
  cases k with
  | own i =>
    dsimp only [RK.get] at g
    split at g
    · rename_i c1 q
      cases g
      obtain ⟨a, e, _⟩ := r.slt i _ q
      have h : σ[i]? = some (some v) := h
      rw [h] at e; cases e
      exact ⟨a, rfl, q, h⟩
    · cases g
  | loc l =>
    cases h with
    | @loc a l h => exact ⟨a, rfl, g, h⟩
end

section
variable {X : Cx} {ct : List (Str × List Str)} {Wx : WX} {e e1 ei o a b tg iter : Expr} {es : List Expr} {f f1 f2 fi : CE} {r : CR} {it g : CA} {t t1 t2 : CT} {pos p p' : Pos} {x y : Str} {st : Stmt} {sts : List Stmt} {s s1 s2 : CS}
/-- a new list -/
theorem n_lst (h : PAf X ct Wx es g) : PNf X ct Wx (.List es pos) (cLst g) := by
  refine PE.fin (pe_lst h) ?_
  rintro σ H Q l ⟨W0, H0, W, E, M, rel, p⟩
  refine ⟨W0, H0, W, E, M, rel, Post.bind p fun d1 M1 W1 H1 v1 _ x1 rel1 p1 l1 p => ?_⟩
  by_cases c : d1.length ≤ sizeMax
  · rw [if_pos c] at p
    have c' : v1.length ≤ sizeLine := by rw [← p1.length]; exact c
    refine ⟨c', fun z hz l'' => ?_⟩
    have x := Ext.new (o := .lst v1) rel1.toCRel hz
    exact p W1 _ _ x (rel1.after x (rel1.toCRel.new hz)) ⟨z, .lst d1, rfl, rfl, ⟨v1, upd_same, p1.mono x.toExt0⟩, Aside.new rel1 hz, rel1.toCRel.was x1 hz⟩ l''
  · rw [if_neg c] at p; exact p.elim
/-- {} -/
@[simp] def cDK : CE := fun _ M => .ok (.dK []) M
@[simp] def cDT : CE := fun _ M => .ok (.dT []) M
theorem n_dK : PNf X ct Wx (.Dict [] [] pos) cDK := by
  refine PE.fin pe_dnewK ?_
  rintro σ H Q l ⟨W0, H0, W, E, M, rel, p⟩
  intro z hz l''
  have x := Ext.new (o := .dK []) rel.toCRel hz
  exact p W _ _ x (rel.after x (rel.toCRel.new hz)) ⟨z, .dK [], rfl, rfl, ⟨[], upd_same, rfl, .nil⟩, Aside.new rel hz, hz⟩ l''
theorem n_dT : PNf X ct Wx (.Dict [] [] pos) cDT := by
  refine PE.fin pe_dnewT ?_
  rintro σ H Q l ⟨W0, H0, W, E, M, rel, p⟩
  intro z hz l''
  have x := Ext.new (o := .dT []) rel.toCRel hz
  exact p W _ _ x (rel.after x (rel.toCRel.new hz)) ⟨z, .dT [], rfl, rfl, ⟨[], upd_same, rfl, .nil⟩, Aside.new rel hz, hz⟩ l''
/-- a new object as a common cell -/
theorem pf_new (h : PNf X ct Wx e f) : PF X ct Wx e (cNew f) := by
  refine PE.fin h ?_
  rintro σ H Q l ⟨W0, H0, W, E, M, rel, p⟩
  refine ⟨W0, H0, W, E, M, rel, ?_⟩
  dsimp only [cNew] at p
  cases q : f E M with
  | bad => rw [q] at p; exact p
  | exc c ds M' => rw [q] at p; exact p
  | ok d M' =>
    rw [q] at p
    rintro W' H' v x r ⟨a, c, rfl, rfl, hc, as, ha⟩ l' _
    dsimp only [R.bind] at p
    rw [cellOf_tree] at p
    have z0 : H0 a = none := rel.toCRel.was rel.ext ha
    have r2 := r.addLoc hc as z0
    exact p (W'.add a) H' _ ⟨x.toExt0.trans Ext0.add, fun b hb => by
      rcases List.mem_append.mp hb with z | z
      · exact x.fr b z
      · rw [List.mem_singleton.mp z]; exact .inr ha, x.zn, x.keep⟩ r2 (.loc (by rw [← r.len]; simp)) l'
/-- a new object into a slot -/
theorem own_end {W0 W W1 : Wd} {H0 H H1 : Hp} {σ : L2.St} {E : Env} {M M1 : Mem} {D : Ends} {d : J.D} {v : V} (i : Nat) (h0 : H0 = H0) (rel : Rel (Gx X ct) W0 H0 W σ H E M) (rel1 : Rel (Gx X ct) W0 H0 W1 σ H1 E M1) (r1 : RpN (Gx X ct) σ E H W1 H1 d v) (l1 : LenOk H1)
    (p : PostS (Gx X ct) Wx W0 H0 W1 H1 (match cellOf d with | some c => R.ok (Fl.nx, E.set i (.ow c)) M1 | none => .bad) D) : (Dl D).nx (σ.set i (some v)) H1 := by
  obtain ⟨a, c, rfl, rfl, hc, as, ha⟩ := r1
  rw [cellOf_tree] at p
  exact fun l => p W1 _ H1 Ext0.refl (rel1.setOwn i hc as (rel.toCRel.was rel.ext ha)) l
theorem s_own (i : Nat) (hN : X.N.Nodup) (he : PNf X ct Wx e f) (hi : X.N[i]? = some x := by rfl) (hx : Loc X.env.scope x := by first | exact .inl rfl | exact .inr rfl) (hs : swapsWith e (some (.Name x p')) pos.line X.env = pure false := by rfl) (hf : X.fn x = true ∨ X.env.scope.names.lookup x = some .local := by first | exact .inl rfl | exact .inr rfl | assumption) : PSf X ct Wx (.Assign [.Name x p'] e pos) (sOwn i f) := by
  refine PS_fin (ps_set hN hi hx he hs hf) ?_
  rintro D σ H l ⟨W0, H0, W, E, M, rel, p⟩
  refine ⟨W0, H0, W, E, M, rel, PostS.bindG p fun d M1 W1 H1 v _ x1 rel1 r1 l1 p => ?_⟩
  exact own_end i rfl rel rel1 r1 l1 p
end
end J
namespace J
open PySem PySem.Spec L2

section
variable {X : Cx} {ct : List (Str × List Str)} {Wx : WX} {e e1 ei o a b tg iter elt value : Expr} {es ifs : List Expr} {f f1 f2 fi : CE} {r : CR} {it g : CA} {t t1 t2 : CT} {pos p p' : Pos} {x y : Str} {st : Stmt} {sts : List Stmt} {s s1 s2 : CS}

/-- name = [..] on one line -/
theorem s_ownLc {scope : Scope} {is : List Nat} {own : List (Str × Nat)} {gg : CG} {gt : TG} (i : Nat) (hc : X.calm = true) (hN : X.N.Nodup) (hsw : swapsWith (.ListComp elt [⟨tg, iter, ifs, 0⟩] scope pos) (some (.Name y p)) p'.line X.env = pure true) (hi : PIf X ct Wx tg iter it) (ok : BlkOk X.N X.env.scope scope own)
    (hg : ∀ (s : Shared) (H : Hp) (C : Addr) (cl : List (Str × Addr)) (fp : List Addr), PGf (X.blk s H scope (compEnvC scope cl C X.env) fp) ct tg is gt gg)
    (ht : ∀ (s : Shared) (H : Hp) (C : Addr) (cl : List (Str × Addr)) (fp : List Addr), PTsf (X.blk s H scope (compEnvC scope cl C X.env) fp) ct Wx ifs t)
    (he : ∀ (s : Shared) (H : Hp) (C : Addr) (cl : List (Str × Addr)) (fp : List Addr), PF (X.blk s H scope (compEnvC scope cl C X.env) fp) ct Wx elt f) (his : ∀ i ∈ is, i ∈ own.map (·.2) := by decide) (hy : X.N[i]? = some y := by rfl) (hyl : X.env.scope.names.lookup y = some .local := by rfl) (hs : ∀ x, foldedSetIterable iter X.env x = pure x := by intro _; rfl) :
    PSf X ct Wx (.Assign [.Name y p] (.ListComp elt [⟨tg, iter, ifs, 0⟩] scope pos) p') (sOwn i (cComp (own.map (·.2)) it gg t f)) := by
  have h := ps_setLc (spos := p') (py := p) (pos := pos) (tt := tT (Gx X ct) Wx t) (te := tF (Gx X ct) Wx f) hc hN hy hyl hsw hi ok (fun s H C cl fp => (hg s H C cl fp).1) ht he hs
  refine ⟨fun pins s σ H D I q => thn (h.run pins s σ H (Dl D) I ?_) fun _ _ q => SP.dl q⟩
  obtain ⟨W0, H0, W, E, M, rel, p⟩ := q
  refine tLc_of (X := X) (hg s H 0 [] []).2 his ⟨W0, H0, W, E, M, rel, PostS.bindG p fun d M1 W1 H1 v _ x1 rel1 r1 l1 p => ?_⟩
  exact own_end i rfl rel rel1 r1 l1 p
theorem PostS.bindD {W0 W : Wd} {H0 H : Hp} {σ : L2.St} {E : Env} {G : Gm} {β : Type} {Rp : Wd → Hp → J.D → β → Prop} {r : R J.D} {k : J.D → Mem → R (Fl × Env)} {D : Ends} {Q' : β → Hp → Prop} (h : PostS G Wx W0 H0 W H (r.st E k) D)
    (hk : ∀ d M1 W1 H1 v, r = .ok d M1 → Ext W H W1 H1 → Rel G W0 H0 W1 σ H1 E M1 → Rp W1 H1 d v → LenOk H1 → PostS G Wx W0 H0 W1 H1 (k d M1) D → Q' v H1) : Post G Wx Rp W0 H0 W H σ E r Q' := by
  cases r with
  | ok d M1 => exact fun W' H' v x r p l => hk d M1 W' H' v rfl x r p l (h.step x.toExt0)
  | exc c ds M1 => exact fun W' H' C o x r p l => h W' σ H' x.toExt0 r l C o p
  | bad => exact h
/-- the same, frozen at once -/
theorem asg_endN {W0 W W1 : Wd} {H0 H H1 : Hp} {σ : L2.St} {E : Env} {M M1 : Mem} {D : Ends} {d : J.D} {v : V} (i : Nat) (rel : Rel (Gx X ct) W0 H0 W σ H E M) (rel1 : Rel (Gx X ct) W0 H0 W1 σ H1 E M1) (r1 : RpN (Gx X ct) σ E H W1 H1 d v) (l1 : LenOk H1)
    (p : PostS (Gx X ct) Wx W0 H0 W1 H1 (.ok (Fl.nx, E.set i (.sh d)) M1) D) : (Dl D).nx (σ.set i (some v)) H1 := by
  obtain ⟨a, c, rfl, rfl, hc, as, ha⟩ := r1
  have r2 := rel1.frzA as (rel.toCRel.was rel.ext ha) hc.isS
  exact fun l => p (W1.frz a) _ H1 Ext0.frz (r2.set i ((hc.mono Ext0.frz fun o h => h).rep (.inr rfl))) l
theorem s_setLc {scope : Scope} {is : List Nat} {own : List (Str × Nat)} {gg : CG} {gt : TG} (i : Nat) (hc : X.calm = true) (hN : X.N.Nodup) (hsw : swapsWith (.ListComp elt [⟨tg, iter, ifs, 0⟩] scope pos) (some (.Name y p)) p'.line X.env = pure true) (hi : PIf X ct Wx tg iter it) (ok : BlkOk X.N X.env.scope scope own)
    (hg : ∀ (s : Shared) (H : Hp) (C : Addr) (cl : List (Str × Addr)) (fp : List Addr), PGf (X.blk s H scope (compEnvC scope cl C X.env) fp) ct tg is gt gg)
    (ht : ∀ (s : Shared) (H : Hp) (C : Addr) (cl : List (Str × Addr)) (fp : List Addr), PTsf (X.blk s H scope (compEnvC scope cl C X.env) fp) ct Wx ifs t)
    (he : ∀ (s : Shared) (H : Hp) (C : Addr) (cl : List (Str × Addr)) (fp : List Addr), PF (X.blk s H scope (compEnvC scope cl C X.env) fp) ct Wx elt f) (his : ∀ i ∈ is, i ∈ own.map (·.2) := by decide) (hy : X.N[i]? = some y := by rfl) (hyl : X.env.scope.names.lookup y = some .local := by rfl) (hs : ∀ x, foldedSetIterable iter X.env x = pure x := by intro _; rfl) :
    PSf X ct Wx (.Assign [.Name y p] (.ListComp elt [⟨tg, iter, ifs, 0⟩] scope pos) p') (sAsg (gN i) (cComp (own.map (·.2)) it gg t f)) := by
  have h := ps_setLc (spos := p') (py := p) (pos := pos) (tt := tT (Gx X ct) Wx t) (te := tF (Gx X ct) Wx f) hc hN hy hyl hsw hi ok (fun s H C cl fp => (hg s H C cl fp).1) ht he hs
  refine ⟨fun pins s σ H D I q => thn (h.run pins s σ H (Dl D) I ?_) fun _ _ q => SP.dl q⟩
  obtain ⟨W0, H0, W, E, M, rel, p⟩ := q
  refine tLc_of (X := X) (hg s H 0 [] []).2 his ⟨W0, H0, W, E, M, rel, PostS.bindD p fun d M1 W1 H1 v _ x1 rel1 r1 l1 p => ?_⟩
  exact asg_endN i rel rel1 r1 l1 p

/-! ### ghosts -/
theorem ss_frz (i : Nat) (h : PSsf X ct Wx sts s) : PSsf X ct Wx sts (sSeq (sFrz i) s) := by
  refine PSs_fin h ?_
  rintro D σ H l ⟨W0, H0, W, E, M, rel, p⟩
  dsimp only [sSeq, sFrz] at p
  cases q : E[i]? with
  | none => rw [q] at p; exact p.elim
  | some sl =>
    cases sl with
    | un => rw [q] at p; exact p.elim
    | sh d => rw [q] at p; exact p.elim
    | ow c =>
      rw [q] at p
      obtain ⟨a, e, h, n1, n2, n3⟩ := rel.slt i _ q
      -- the slot first, so that it is nobody's own
      have rel2 : Rel (Gx X ct) W0 H0 (W.frz a) σ H (E.set i (.sh c.tree)) M := by
        have hl : ∀ {s : Sl} {j : Nat}, (E.set i (.sh c.tree))[j]? = some s → (j = i ∧ s = .sh c.tree) ∨ (j ≠ i ∧ E[j]? = some s) := fun {s j} hs => by
          by_cases e : i = j
          · subst e
            have hl : i < E.length := by
              have := (List.getElem?_eq_some_iff.mp hs).1
              rwa [List.length_set] at this
            rw [List.getElem?_set_self hl] at hs
            exact .inl ⟨rfl, (Option.some.inj hs).symm⟩
          · rw [List.getElem?_set_ne e] at hs
            exact .inr ⟨fun q => e q.symm, hs⟩
        refine ⟨⟨rel.len, fun l cl b h1 h2 => (rel.cel l cl b h1 h2).mono Ext0.frz fun o h => h, rel.nd, fun b hb z => ?_, fun b z => ?_⟩, ⟨rel.ext.toExt0.trans Ext0.frz, rel.ext.fr, fun b z => ?_, rel.ext.keep⟩, fun j s hs => ?_, by rw [List.length_set]; exact rel.sz, fun j k c1 c2 b h1 h2 h3 h4 => ?_⟩
        · rcases z with z | z
          · exact rel.sep b hb z
          · subst z; exact n1 hb
        · rcases z with z | z
          · exact rel.zs b z
          · subst z; exact h.isS
        · rcases z with z | z
          · exact rel.ext.zn b z
          · subst z; exact .inr n3
        · rcases hl hs with ⟨rfl, rfl⟩ | ⟨ne, hs⟩
          · exact ⟨_, e, (h.mono Ext0.frz fun o h => h).rep (.inr rfl)⟩
          · have q2 := rel.slt j s hs
            cases s with
            | un => exact True.intro
            | sh d => obtain ⟨w, e2, h2⟩ := q2; exact ⟨w, e2, h2.mono Ext0.frz⟩
            | ow c2 =>
              obtain ⟨b, e2, h2, m1, m2, m3⟩ := q2
              refine ⟨b, e2, h2.mono Ext0.frz fun o ho => ho, m1, fun z => ?_, m3⟩
              rcases z with z | z
              · exact m2 z
              · subst z; exact ne (rel.own j i c2 c _ hs q e2 e)
        · rcases hl h1 with ⟨_, q1⟩ | ⟨_, h1⟩
          · cases q1
          · rcases hl h2 with ⟨_, q2⟩ | ⟨_, h2⟩
            · cases q2
            · exact rel.own j k c1 c2 b h1 h2 h3 h4
      exact ⟨W0, H0, _, _, _, rel2, PostS.dl (PostS.step Ext0.frz p)⟩
theorem Aside.noMem {G : Gm} {W0 W : Wd} {H0 H : Hp} {σ : L2.St} {E : Env} {M : Mem} : True := trivial
theorem ss_pub (i : Nat) (h : PSsf X ct Wx sts s) : PSsf X ct Wx sts (sSeq (sPub i) s) := by
  refine PSs_fin h ?_
  rintro D σ H l ⟨W0, H0, W, E, M, rel, p⟩
  dsimp only [sSeq, sPub] at p
  cases q : E[i]? with
  | none => rw [q] at p; exact p.elim
  | some sl =>
    cases sl with
    | un => rw [q] at p; exact p.elim
    | sh d => rw [q] at p; exact p.elim
    | ow c =>
      rw [q] at p
      obtain ⟨a, e, h, n1, n2, n3⟩ := rel.slt i _ q
      have hl : ∀ {s : Sl} {j : Nat} {s0 : Sl}, (E.set i s0)[j]? = some s → (j = i ∧ s = s0) ∨ (j ≠ i ∧ E[j]? = some s) := fun {s j s0} hs => by
        by_cases e : i = j
        · subst e
          have hl : i < E.length := by
            have := (List.getElem?_eq_some_iff.mp hs).1
            rwa [List.length_set] at this
          rw [List.getElem?_set_self hl] at hs
          exact .inl ⟨rfl, (Option.some.inj hs).symm⟩
        · rw [List.getElem?_set_ne e] at hs
          exact .inr ⟨fun q => e q.symm, hs⟩
      -- the slot is forgotten, then told anew
      have rel1 : Rel (Gx X ct) W0 H0 W σ H (E.set i .un) M := by
        refine ⟨rel.toCRel, rel.ext, fun j s hs => ?_, by rw [List.length_set]; exact rel.sz, fun j k c1 c2 b h1 h2 h3 h4 => ?_⟩
        · rcases hl hs with ⟨rfl, rfl⟩ | ⟨ne, hs⟩
          · exact True.intro
          · exact rel.slt j s hs
        · rcases hl h1 with ⟨_, q1⟩ | ⟨_, h1⟩
          · cases q1
          · rcases hl h2 with ⟨_, q2⟩ | ⟨_, h2⟩
            · cases q2
            · exact rel.own j k c1 c2 b h1 h2 h3 h4
      have as : Aside W σ (E.set i .un) a := by
        refine ⟨n1, n2, fun j c2 hs q2 => ?_⟩
        rcases hl hs with ⟨_, z⟩ | ⟨ne, hs⟩
        · cases z
        · exact ne (rel.own j i c2 c a hs q q2 e)
      have rel2 := rel1.addLoc h as n3
      have rel3 : Rel (Gx X ct) W0 H0 (W.add a) σ H (E.set i (.sh (.loc M.length))) (M ++ [c]) := by
        refine ⟨rel2.toCRel, rel2.ext, fun j s hs => ?_, by rw [List.length_set]; exact rel.sz, fun j k c1 c2 b h1 h2 h3 h4 => ?_⟩
        · rcases hl hs with ⟨rfl, rfl⟩ | ⟨ne, hs⟩
          · exact ⟨_, e, .loc (by rw [← rel.len]; simp)⟩
          · exact rel2.slt j s (by rw [List.getElem?_set_ne (Ne.symm ne)]; exact hs)
        · rcases hl h1 with ⟨_, q1⟩ | ⟨_, h1⟩
          · cases q1
          · rcases hl h2 with ⟨_, q2⟩ | ⟨_, h2⟩
            · cases q2
            · exact rel.own j k c1 c2 b h1 h2 h3 h4
      exact ⟨W0, H0, _, _, _, rel3, PostS.dl (PostS.step Ext0.add p)⟩

/-! ### receivers -/
abbrev PRf (X : Cx) (ct : List (Str × List Str)) (Wx : WX) (e : Expr) (r : CR) : Prop := PE X e (tR (Gx X ct) Wx r)
theorem pr_own (i : Nat) (hN : X.N[i]? = some x := by rfl) (hv : Vis X.env.scope x := by first | exact Or.inl rfl | exact Or.inr (Or.inl rfl) | exact Or.inr (Or.inr rfl)) (hd : (x == ("__debug__" : Str)) = false := by decide)
    (hcd : (x == ("__classdict__" : Str)) = false := by decide) : PRf X ct Wx (.Name x pos) (rOwn i) := by
  refine PE.fin (pe_var hN hv hd hcd) ?_
  rintro σ H Q l ⟨W0, H0, W, E, M, rel, p⟩
  dsimp only [rOwn] at p
  cases q : E[i]? with
  | none => rw [q] at p; exact p.elim
  | some sl =>
    cases sl with
    | un => rw [q] at p; exact p.elim
    | sh d => rw [q] at p; exact p.elim
    | ow c =>
      rw [q] at p
      obtain ⟨a, e, _⟩ := rel.slt i _ q
      exact ⟨_, e, fun l' => p W H _ Ext.refl rel e l'⟩
theorem pr_loc (h : PF X ct Wx e f) : PRf X ct Wx e (rLoc f) := by
  refine PE.fin h ?_
  rintro σ H Q l ⟨W0, H0, W, E, M, rel, p⟩
  refine ⟨W0, H0, W, E, M, rel, Post.bind p fun d1 M1 W1 H1 v1 _ x1 rel1 p1 l1 p => ?_⟩
  cases d1 with
  | loc k => exact fun _ => p W1 H1 v1 Ext.refl rel1 p1 l1
  | _ => exact p.elim

/-! ### cells are written -/
/-- behind a write -/
theorem up_end {W0 W : Wd} {H0 H : Hp} {σ : L2.St} {E : Env} {M : Mem} {D : Ends} {k : RK} {a : Addr} {c c' : Cell} {o' : HO} {u : Option Cell} (rel : Rel (Gx X ct) W0 H0 W σ H E M) (at' : RcvAt W σ E M a c k) (hu : u = some c') (new : CellOk (Gx X ct) W (upd H a o') a c') (l : LenOk (upd H a o'))
    (p : PostS (Gx X ct) Wx W0 H0 W H (upK k u E M) D) : (Dl D).nx σ (upd H a o') := by
  subst hu
  have q := at'.put rel new
  exact fun _ => p W σ _ (Ext0.put (at'.ok rel).1 (at'.ok rel).2) q l
theorem get_some {k : RK} {E : Env} {M : Mem} {op : Cell → Option Cell} {P : Prop} (hb : ∀ c c', k.get E M = some c → op c = some c' → P) (hn : (k.get E M).bind op = none → P) : P := by
  cases q : k.get E M with
  | none => exact hn (by rw [q]; rfl)
  | some c =>
    cases q2 : op c with
    | none => exact hn (by rw [q]; exact q2)
    | some c' => exact hb c c' q q2
theorem s_app (ho : PRf X ct Wx o r) (he : PF X ct Wx e f) (hb : attributeBase o "append" X.env (eval o X.env) = eval o X.env := by rfl)
    (hfew : ((backTo p (starEach [e] X.env)).all (fun x => !x.1) && (backToKw p (keywordEach [] X.env)).all (fun x => x.1.isSome) && decide ([e].length + ([] : List Keyword).length + (if ([] : List Keyword).isEmpty then 0 else 1) < 30)) = true := by rfl)
    (hline : (p'.endLine == p.line) = true := by rfl) (hs : starEach [e] X.env = (false, eval e X.env) :: starEach [] X.env := by rfl) (hw : swapsWith (.Call (.Attribute o "append" p') [e] [] p) none pos.line X.env = pure false := by rfl) :
    PSf X ct Wx (.Expr (.Call (.Attribute o "append" p') [e] [] p) pos) (sApp r f) := by
  refine PS_fin (ps_expr (pe_bm PySem.F.plainAttrs_list PySem.F.slot_list_append PySem.F.type_list_append mt_append ho (pa_cons he pa_nil hs) hb hfew hline hs rfl) hw) ?_
  rintro D σ H l ⟨W0, H0, W, E, M, rel, p⟩
  refine ⟨W0, H0, W, E, M, rel, PostS.bindG p fun k M1 W1 H1 v _ x1 rel1 r1 l1 p => ?_⟩
  cases g0 : k.get E M1 with
  | none => rw [g0] at p; exact p.elim
  | some c0 =>
    cases c0 with
    | lst ds0 =>
      rw [g0] at p
      obtain ⟨a0, rfl, at0⟩ := r1.at rel1 g0
      obtain ⟨⟨vs0, e0, _⟩, _⟩ := at0.ok rel1
      refine ⟨.inl ⟨rfl, _, SqL.of e0⟩, W0, H0, W1, E, M1, rel1, PostS.bindG p fun d M2 W2 H2 v2 _ x2 rel2 r2 l2 p => ?_⟩
      refine get_some (k := k) (E := E) (M := M2) (op := kApp d) (fun c c' g q => ?_) fun g => by rw [g] at p; exact p.elim
      obtain ⟨a, ea, at'⟩ := (r1.mono x2.toExt0).at rel2 g
      cases ea
      have hc := (at'.ok rel2).1
      have hz := (at'.ok rel2).2
      cases c with
      | lst ds =>
        have q0 := q
        dsimp only [kApp] at q
        split at q
        · rename_i hl
          cases q
          obtain ⟨vs, e, rv⟩ := id hc
          have hl' : vs.length < sizeLine := by rw [← rv.length]; exact hl
          have x := Ext0.put (o' := .lst (vs ++ [v2])) hc hz
          refine ⟨a0, vs, v2, rfl, rfl, e, hl', ?_⟩
          refine up_end (c' := .lst (ds ++ [d])) rel2 at' (by rw [g]; exact q0) ⟨vs ++ [v2], upd_same, (rv.mono x).append (.one (r2.mono x))⟩ (l2.upd (fun _ z => by cases z; rw [List.length_append]; exact hl') (fun _ z => nomatch z) fun _ _ z => nomatch z) p
        · cases q
      | _ => cases q
    | _ => rw [g0] at p; exact p.elim
theorem s_ext (ho : PRf X ct Wx o r) (he : PF X ct Wx e f) (hb : attributeBase o "extend" X.env (eval o X.env) = eval o X.env := by rfl)
    (hfew : ((backTo p (starEach [e] X.env)).all (fun x => !x.1) && (backToKw p (keywordEach [] X.env)).all (fun x => x.1.isSome) && decide ([e].length + ([] : List Keyword).length + (if ([] : List Keyword).isEmpty then 0 else 1) < 30)) = true := by rfl)
    (hline : (p'.endLine == p.line) = true := by rfl) (hs : starEach [e] X.env = (false, eval e X.env) :: starEach [] X.env := by rfl) (hw : swapsWith (.Call (.Attribute o "extend" p') [e] [] p) none pos.line X.env = pure false := by rfl) :
    PSf X ct Wx (.Expr (.Call (.Attribute o "extend" p') [e] [] p) pos) (sExt r f) := by
  refine PS_fin (ps_expr (pe_bm PySem.F.plainAttrs_list PySem.F.slot_list_extend PySem.F.type_list_extend mt_extend ho (pa_cons he pa_nil hs) hb hfew hline hs rfl) hw) ?_
  rintro D σ H l ⟨W0, H0, W, E, M, rel, p⟩
  refine ⟨W0, H0, W, E, M, rel, PostS.bindG p fun k M1 W1 H1 v _ x1 rel1 r1 l1 p => ?_⟩
  cases g0 : k.get E M1 with
  | none => rw [g0] at p; exact p.elim
  | some c0 =>
    cases c0 with
    | lst ds0 =>
      rw [g0] at p
      obtain ⟨a0, rfl, at0⟩ := r1.at rel1 g0
      obtain ⟨⟨vs0, e0, _⟩, _⟩ := at0.ok rel1
      refine ⟨.inl ⟨rfl, _, SqL.of e0⟩, W0, H0, W1, E, M1, rel1, PostS.bindG p fun d M2 W2 H2 v2 _ x2 rel2 r2 l2 p => ?_⟩
      cases r2 with
      | @lst b zs es z hb rz =>
        refine get_some (k := k) (E := E) (M := M2) (op := kExt es) (fun c c' g q => ?_) fun g => by dsimp only at p; rw [g] at p; exact p.elim
        obtain ⟨a, ea, at'⟩ := (r1.mono x2.toExt0).at rel2 g
        cases ea
        have hc := (at'.ok rel2).1
        have hz := (at'.ok rel2).2
        cases c with
        | lst ds =>
          have q0 := q
          dsimp only [kExt] at q
          split at q
          · rename_i hl
            cases q
            obtain ⟨vs, e, rv⟩ := id hc
            have hl' : vs.length + zs.length ≤ sizeLine := by rw [← rv.length, ← rz.length]; exact hl
            have x := Ext0.put (o' := .lst (vs ++ zs)) hc hz
            refine ⟨a0, b, vs, zs, rfl, rfl, e, hb, hl', ?_⟩
            refine up_end (c' := .lst (ds ++ es)) rel2 at' (by rw [g]; exact q0) ⟨vs ++ zs, upd_same, (rv.mono x).append (rz.mono x)⟩ (l2.upd (fun _ z => by cases z; rw [List.length_append]; exact hl') (fun _ z => nomatch z) fun _ _ z => nomatch z) p
          · cases q
        | _ => cases q
      | _ => exact p.elim
    | _ => rw [g0] at p; exact p.elim
theorem s_setL (ho : PRf X ct Wx o r) (hi : PF X ct Wx ei fi) (hv : PF X ct Wx e f) (hs : swapsWithSole [.Subscript o ei p'] e pos.line X.env = pure false := by rfl) (hw : swappedStores [.Subscript o ei p'] e X.env = pure none := by rfl)
    (h1 : (assignEach [.Subscript o ei p'] X.env).map (·.2) = [assign (.Subscript o ei p') X.env] := by rfl)
    (ha : ∀ v, assign (.Subscript o ei p') X.env v = (do
      let ov ← holding [v] (eval o X.env)
      let iv ← holding [v, ov] (eval ei X.env)
      standAt p'
      holding [v, ov, iv] (setItem ov iv v)
      release [v, ov, iv] []) := by intro _; rfl) : PSf X ct Wx (.Assign [.Subscript o ei p'] e pos) (sSetL r fi f) := by
  refine PS_fin (ps_asg hv (pg_sub ho hi set_list ha) hs hw h1) ?_
  rintro D σ H l ⟨W0, H0, W, E, M, rel, p⟩
  refine ⟨W0, H0, W, E, M, rel, PostS.bindG p fun d M1 W1 H1 v _ x1 rel1 r1 l1 p => ?_⟩
  refine ⟨W0, H0, W1, E, M1, rel1, PostS.bindG p fun k M2 W2 H2 u _ x2 rel2 r2 l2 p => ?_⟩
  refine ⟨W0, H0, W2, E, M2, rel2, PostS.bindG p fun i M3 W3 H3 w _ x3 rel3 r3 l3 p => ?_⟩
  refine get_some (k := k) (E := E) (M := M3) (op := kSetL i d) (fun c c' g q => ?_) fun g => by rw [g] at p; exact p.elim
  obtain ⟨a, rfl, at'⟩ := (r2.mono x3.toExt0).at rel3 g
  have hc := (at'.ok rel3).1
  have hz := (at'.ok rel3).2
  have rv := (r1.mono x2.toExt0).mono x3.toExt0
  cases c with
  | lst ds =>
    cases r3 with
    | int n =>
      have q0 := q
      dsimp only [kSetL] at q
      cases q1 : ixN ds.length n with
      | none => rw [q1] at q; cases q
      | some j =>
        rw [q1] at q
        cases q
        obtain ⟨vs, e, rs⟩ := id hc
        have x := Ext0.put (o' := .lst (vs.set j v)) hc hz
        refine ⟨a, vs, n, j, rfl, rfl, e, by rw [← rs.length]; exact q1, ?_⟩
        exact up_end (c' := .lst (ds.set j d)) rel3 at' (by rw [g]; exact q0) ⟨vs.set j v, upd_same, (rs.mono x).set (rv.mono x) j⟩ (l3.upd (fun _ z => by cases z; rw [List.length_set]; exact l3.1 _ _ (.inl e)) (fun _ z => nomatch z) fun _ _ z => nomatch z) p
    | _ => cases q
  | _ => cases q

theorem reps_put {G : Gm} {W : Wd} {H : Hp} {κ : Type} [DecidableEq κ] {k : κ} {d : D} {v : V} (rv : Rep G W H d v) {kvs : List (κ × D)} {vs : List (κ × V)} (e : vs.map (·.1) = kvs.map (·.1)) (r : Reps G W H (kvs.map (·.2)) (vs.map (·.2))) :
    (putK vs k v).map (·.1) = (put kvs k d).map (·.1) ∧ Reps G W H ((put kvs k d).map (·.2)) ((putK vs k v).map (·.2)) := by
  have ea : (vs.any fun kv => decide (kv.1 = k)) = kvs.any fun kv => decide (kv.1 = k) := by
    have h : ∀ {β : Type} (l : List (κ × β)), (l.any fun kv => decide (kv.1 = k)) = (l.map (·.1)).any fun x => decide (x = k) := fun l => by rw [List.any_map]; rfl
    rw [h, h, e]
  unfold putK put
  rw [ea]
  by_cases c : (kvs.any fun kv => decide (kv.1 = k)) = true
  · rw [if_pos c, if_pos c]
    have go : ∀ (kvs : List (κ × D)) (vs : List (κ × V)), vs.map (·.1) = kvs.map (·.1) → Reps G W H (kvs.map (·.2)) (vs.map (·.2)) →
        (vs.map fun kv => if kv.1 = k then (kv.1, v) else kv).map (·.1) = (kvs.map fun kv => if kv.1 = k then (kv.1, d) else kv).map (·.1) ∧ Reps G W H ((kvs.map fun kv => if kv.1 = k then (kv.1, d) else kv).map (·.2)) ((vs.map fun kv => if kv.1 = k then (kv.1, v) else kv).map (·.2)) := by
      intro kvs
      induction kvs with
      | nil =>
        intro vs e r
        cases vs with
        | nil => exact ⟨rfl, .nil⟩
        | cons _ _ => cases e
      | cons kv kvs ih =>
        intro vs e r
        cases vs with
        | nil => cases e
        | cons w vs =>
          rw [List.map_cons, List.map_cons] at e
          injection e with e1 e2
          have r : Reps G W H (kv.2 :: kvs.map (·.2)) (w.2 :: vs.map (·.2)) := r
          cases r with
          | cons h t =>
            obtain ⟨i1, i2⟩ := ih vs e2 t
            by_cases q : kv.1 = k
            · have q' : w.1 = k := by rw [e1]; exact q
              simp only [List.map_cons, q, q', if_true]
              exact ⟨by rw [i1], .cons rv i2⟩
            · have q' : ¬ w.1 = k := by rw [e1]; exact q
              simp only [List.map_cons, q, q', if_false]
              exact ⟨by rw [i1, e1], .cons h i2⟩
    exact go kvs vs e r
  · rw [if_neg c, if_neg c, List.map_append, List.map_append, List.map_append, List.map_append, e]
    exact ⟨rfl, r.append (.one rv)⟩
theorem keyOf_rep {G : Gm} {W : Wd} {H : Hp} {d : D} {k : Key} {v : V} (r : Rep G W H d v) (h : keyOf d = some k) : v = kV k := rep_key r h

theorem s_put (hu : X.A.units + 1 < cLine) (ho : PRf X ct Wx o r) (hi : PF X ct Wx ei fi) (hv : PF X ct Wx e f) (hs : swapsWithSole [.Subscript o ei p'] e pos.line X.env = pure false := by rfl) (hw : swappedStores [.Subscript o ei p'] e X.env = pure none := by rfl)
    (h1 : (assignEach [.Subscript o ei p'] X.env).map (·.2) = [assign (.Subscript o ei p') X.env] := by rfl)
    (ha : ∀ v, assign (.Subscript o ei p') X.env v = (do
      let ov ← holding [v] (eval o X.env)
      let iv ← holding [v, ov] (eval ei X.env)
      standAt p'
      holding [v, ov, iv] (setItem ov iv v)
      release [v, ov, iv] []) := by intro _; rfl) : PSf X ct Wx (.Assign [.Subscript o ei p'] e pos) (sPut r fi f) := by
  refine PS_fin (ps_asg hv (pg_sub ho hi (set_dict hu) ha) hs hw h1) ?_
  rintro D σ H l ⟨W0, H0, W, E, M, rel, p⟩
  refine ⟨W0, H0, W, E, M, rel, PostS.bindG p fun d M1 W1 H1 v _ x1 rel1 r1 l1 p => ?_⟩
  refine ⟨W0, H0, W1, E, M1, rel1, PostS.bindG p fun k M2 W2 H2 u _ x2 rel2 r2 l2 p => ?_⟩
  refine ⟨W0, H0, W2, E, M2, rel2, PostS.bindG p fun i M3 W3 H3 w _ x3 rel3 r3 l3 p => ?_⟩
  refine get_some (k := k) (E := E) (M := M3) (op := kPut i d) (fun c c' g q => ?_) fun g => by rw [g] at p; exact p.elim
  obtain ⟨a, rfl, at'⟩ := (r2.mono x3.toExt0).at rel3 g
  have hc := (at'.ok rel3).1
  have hz := (at'.ok rel3).2
  have rv := (r1.mono x2.toExt0).mono x3.toExt0
  cases c with
  | dK kvs =>
    have q0 := q
    dsimp only [kPut] at q
    split at q
    · rename_i hl
      cases q1 : keyOf i with
      | none => rw [q1] at q; cases q
      | some key =>
        rw [q1] at q
        cases q
        obtain ⟨vs, e, ek, rs⟩ := id hc
        have hl' : vs.length < sizeLine := by
          have := congrArg List.length ek
          rw [List.length_map, List.length_map] at this
          rw [this]; exact hl
        have ew := rep_key r3 q1
        subst ew
        have x := Ext0.put (o' := .dK (putK vs key v)) hc hz
        obtain ⟨p1, p2⟩ := reps_put (k := key) (rv.mono x) ek (rs.mono x)
        refine ⟨a, _, rfl, .k e hl', ?_⟩
        exact up_end (c' := .dK (put kvs key d)) rel3 at' (by rw [g]; exact q0) ⟨putK vs key v, upd_same, p1, p2⟩ (l3.upd (fun _ z => nomatch z) (fun _ z => nomatch z) fun _ _ z => nomatch z) p
    · cases q
  | dT kvs =>
    have q0 := q
    cases r3 with
    | @tup b us ks hb rb =>
      dsimp only [kPut] at q
      split at q
      · rename_i hl
        cases q1 : keysOf ks with
        | none => rw [q1] at q; cases q
        | some key =>
          rw [q1] at q
          cases q
          obtain ⟨vs, e, ek, rs⟩ := id hc
          have hl' : vs.length < sizeLine := by
            have := congrArg List.length ek
            rw [List.length_map, List.length_map] at this
            rw [this]; exact hl
          have ew := reps_keys rb q1
          subst ew
          have x := Ext0.put (o' := .dT (putK vs key v)) hc hz
          obtain ⟨p1, p2⟩ := reps_put (k := key) (rv.mono x) ek (rs.mono x)
          refine ⟨a, _, rfl, .t e hb hl', ?_⟩
          exact up_end (c' := .dT (put kvs key d)) rel3 at' (by rw [g]; exact q0) ⟨putK vs key v, upd_same, p1, p2⟩ (l3.upd (fun _ z => nomatch z) (fun _ z => nomatch z) fun _ _ z => nomatch z) p
      · cases q
    | _ => cases q
  | _ => cases q

theorem putF_set {f : Str} {v : V} : ∀ {vs : List (Str × V)} {ns : List Str} {j : Nat}, vs.map (·.1) = ns → ns.Nodup → ns[j]? = some f → (putF f v vs).map (·.1) = ns ∧ (putF f v vs).map (·.2) = (vs.map (·.2)).set j v
  | [], _, _, e, _, h => by subst e; simp at h
  | p :: vs, [], _, e, _, _ => by cases e
  | (g, w) :: vs, n :: ns, 0, e, _, h => by
    injection e with e1 e2
    simp at h
    have e1 : g = n := e1
    subst h e1
    unfold putF
    rw [if_pos rfl]
    exact ⟨by simp [e2], by simp⟩
  | (g, w) :: vs, n :: ns, j + 1, e, nd, h => by
    injection e with e1 e2
    have e1 : g = n := e1
    have h : ns[j]? = some f := by simpa using h
    have ne : ¬ g = f := fun z => (List.nodup_cons.mp nd).1 (by rw [← e1, z]; exact List.mem_of_getElem? h)
    unfold putF
    rw [if_neg ne]
    obtain ⟨i1, i2⟩ := putF_set (v := v) e2 (List.nodup_cons.mp nd).2 h
    exact ⟨by rw [List.map_cons, i1, e1], by rw [List.map_cons, List.map_cons, List.set_cons_succ, i2]⟩
theorem putF_new {f : Str} {v : V} : ∀ {vs : List (Str × V)}, f ∉ vs.map (·.1) → putF f v vs = vs ++ [(f, v)]
  | [], _ => rfl
  | (g, w) :: vs, h => by
    have ne : ¬ g = f := fun z => h (by rw [List.map_cons]; exact List.mem_cons.mpr (.inl z.symm))
    unfold putF
    rw [if_neg ne, putF_new fun z => h (by rw [List.map_cons]; exact List.mem_cons.mpr (.inr z))]
    rfl
theorem s_fld {fx : Str} (n j : Nat) (hC : ClsX X.K X.mg ct n) (ho : PRf X ct Wx o r) (hv : PF X ct Wx e f) (hj : (ct[n]?.bind fun p => p.2[j]?) = some fx := by rfl) (hs : swapsWith e (some (.Attribute o fx p')) pos.line X.env = pure false := by rfl) :
    PSf X ct Wx (.Assign [.Attribute o fx p'] e pos) (sFld n j r f) := by
  obtain ⟨nm, ns, C, h1, h2, cl, nd, hlen, no⟩ := hC.ex
  rw [h1] at hj
  have hj : ns[j]? = some fx := hj
  refine PS_fin (ps_fld ho hv hs) ?_
  rintro D σ H l ⟨W0, H0, W, E, M, rel, p⟩
  refine ⟨W0, H0, W, E, M, rel, PostS.bindG p fun d M1 W1 H1 v _ x1 rel1 r1 l1 p => ?_⟩
  refine ⟨W0, H0, W1, E, M1, rel1, PostS.bindG p fun k M2 W2 H2 u _ x2 rel2 r2 l2 p => ?_⟩
  refine get_some (k := k) (E := E) (M := M2) (op := kFld n j d) (fun c c' g q => ?_) fun g => by rw [g] at p; exact p.elim
  obtain ⟨a, rfl, at'⟩ := r2.at rel2 g
  have hc := (at'.ok rel2).1
  have hz := (at'.ok rel2).2
  have rv := r1.mono x2.toExt0
  cases c with
  | ins cn ds =>
    have q0 := q
    dsimp only [kFld] at q
    split at q
    · rename_i ec
      subst ec
      obtain ⟨nm', ns', C', dx, vs, t1, t2, e, ek, rs⟩ := id hc
      have t1 : ct[cn]? = some (nm', ns') := t1
      rw [h1] at t1
      cases t1
      rw [show (Gx X ct).mg = X.mg from rfl, h2] at t2
      cases t2
      have hvl : vs.length = (ns.take ds.length).length := by rw [← ek, List.length_map]
      have hv1000 : vs.length < 1000 := by
        rw [hvl, List.length_take]; omega
      have x := Ext0.put (o' := .ins C dx (putF fx v vs)) hc hz
      refine ⟨a, C, dx, vs, rfl, e, cl, no _ (List.mem_of_getElem? hj), hv1000, ?_⟩
      split at q
      · rename_i hlt
        cases q
        obtain ⟨p1, p2⟩ := putF_set (v := v) ek (nd.sublist (List.take_sublist _ _)) (by rw [List.getElem?_take_of_lt hlt]; exact hj)
        refine up_end (c' := .ins cn (ds.set j d)) rel2 at' (by rw [g]; exact q0) ⟨nm, ns, C, dx, _, h1, h2, upd_same, by rw [List.length_set]; exact p1, by rw [p2]; exact (rs.mono x).set (rv.mono x) j⟩ (l2.upd (fun _ z => nomatch z) (fun _ z => nomatch z) fun _ _ z => nomatch z) p
      · split at q
        · rename_i hnl hle
          cases q
          subst hle
          have hnew : fx ∉ vs.map (·.1) := by
            rw [ek]
            intro hm
            obtain ⟨i, hi, e1⟩ := List.getElem_of_mem hm
            rw [List.length_take] at hi
            rw [List.getElem_take] at e1
            obtain ⟨hjl, e2⟩ := List.getElem?_eq_some_iff.mp hj
            have := (List.getElem_inj nd).mp (e1.trans e2.symm)
            omega
          have ep := putF_new (v := v) hnew
          refine up_end (c' := .ins cn (ds ++ [d])) rel2 at' (by rw [g]; exact q0) ⟨nm, ns, C, dx, _, h1, h2, upd_same, ?_, ?_⟩ (l2.upd (fun _ z => nomatch z) (fun _ z => nomatch z) fun _ _ z => nomatch z) p
          · rw [ep, List.map_append, ek, List.length_append, List.length_singleton, List.take_add_one, hj]
            rfl
          · have := (rs.mono x).append (.one (rv.mono x))
            have e2 : (putF fx v vs).map (·.2) = vs.map (·.2) ++ [v] := by rw [ep, List.map_append]; rfl
            rw [e2]
            exact this
        · cases q
    · cases q
  | _ => cases q
end
end J
namespace J
open PySem PySem.Spec L2 PyProof.Rows

section
variable {G : Gm} {Wx : WX} {W0 W W1 W' : Wd} {H0 H H1 H' : Hp} {σ : L2.St} {E : Env} {M M1 M' : Mem} {d : D} {v : V} {ds : List D} {a : Addr}
mutual
theorem Rep.isLow : ∀ {d : D} {v : V}, Rep G W H d v → lowD W.phi.length d = true
  | _, _, .non => rfl
  | _, _, .bl b => rfl
  | _, _, .int i => rfl
  | _, _, .str s => rfl
  | _, _, .tup h r => Reps.isLow r
  | _, _, .lst z h r => Reps.isLow r
  | _, _, .scr h r => Reps.isLow r
  | _, _, .dK (ds := ds) z h k r => by
    have q := Reps.isLow r
    show lowK _ ds = true
    clear k h z r
    induction ds with
    | nil => rfl
    | cons p ds ih =>
      obtain ⟨k, d⟩ := p
      have q : (lowD W.phi.length d && lowDs W.phi.length (ds.map (·.2))) = true := q
      rw [Bool.and_eq_true] at q
      show (lowD W.phi.length d && lowK W.phi.length ds) = true
      rw [q.1, ih q.2]; rfl
  | _, _, .dT (ds := ds) z h k r => by
    have q := Reps.isLow r
    show lowT _ ds = true
    clear k h z r
    induction ds with
    | nil => rfl
    | cons p ds ih =>
      obtain ⟨k, d⟩ := p
      have q : (lowD W.phi.length d && lowDs W.phi.length (ds.map (·.2))) = true := q
      rw [Bool.and_eq_true] at q
      show (lowD W.phi.length d && lowT W.phi.length ds) = true
      rw [q.1, ih q.2]; rfl
  | _, _, .obj z t c h k r => Reps.isLow r
  | _, _, .loc h => decide_eq_true (List.getElem?_eq_some_iff.mp h).1
  | _, _, .fn h => rfl
  | _, _, .ty n => rfl
theorem Reps.isLow : ∀ {ds : List D} {vs : List V}, Reps G W H ds vs → lowDs W.phi.length ds = true
  | _, _, .nil => rfl
  | _, _, .cons (d := d) (ds := ds) h t => by
    show (lowD W.phi.length d && lowDs W.phi.length ds) = true
    rw [Rep.isLow h, Reps.isLow t]; rfl
end
theorem lowK_iff {n : Nat} : ∀ {kvs : List (Key × D)}, lowK n kvs = lowDs n (kvs.map (·.2))
  | [] => rfl
  | (k, d) :: r => by
    show (lowD n d && lowK n r) = (lowD n d && lowDs n (r.map (·.2)))
    rw [lowK_iff]
theorem lowT_iff {n : Nat} : ∀ {kvs : List (List Key × D)}, lowT n kvs = lowDs n (kvs.map (·.2))
  | [] => rfl
  | (k, d) :: r => by
    show (lowD n d && lowT n r) = (lowD n d && lowDs n (r.map (·.2)))
    rw [lowT_iff]
mutual
theorem Rep.cut {more : List Addr} (hp : W'.phi = W.phi ++ more) : ∀ {d : D} {v : V}, Rep G W' H d v → lowD W.phi.length d = true → Rep G ⟨W.phi, W'.Z⟩ H d v
  | _, _, .non, _ => .non
  | _, _, .bl b, _ => .bl b
  | _, _, .int i, _ => .int i
  | _, _, .str s, _ => .str s
  | _, _, .tup h r, l => .tup h (Reps.cut hp r l)
  | _, _, .lst z h r, l => .lst z h (Reps.cut hp r l)
  | _, _, .scr h r, l => .scr h (Reps.cut hp r l)
  | _, _, .dK z h k r, l => .dK z h k (Reps.cut hp r (by rw [← lowK_iff]; exact l))
  | _, _, .dT z h k r, l => .dT z h k (Reps.cut hp r (by rw [← lowT_iff]; exact l))
  | _, _, .obj z t c h k r, l => .obj z t c h k (Reps.cut hp r l)
  | _, _, .loc h, l => .loc (by
    have l := of_decide_eq_true l
    rw [hp, List.getElem?_append_left l] at h
    exact h)
  | _, _, .fn h, _ => .fn h
  | _, _, .ty n, _ => .ty n
theorem Reps.cut {more : List Addr} (hp : W'.phi = W.phi ++ more) : ∀ {ds : List D} {vs : List V}, Reps G W' H ds vs → lowDs W.phi.length ds = true → Reps G ⟨W.phi, W'.Z⟩ H ds vs
  | _, _, .nil, _ => .nil
  | _, _, .cons (d := d) (ds := ds) h t, l => by
    have l : (lowD W.phi.length d && lowDs W.phi.length ds) = true := l
    rw [Bool.and_eq_true] at l
    exact .cons (Rep.cut hp h l.1) (Reps.cut hp t l.2)
end
theorem CellOk.cut {more : List Addr} {c : Cell} (hp : W'.phi = W.phi ++ more) (l : lowC W.phi.length c = true) (h : CellOk G W' H a c) : CellOk G ⟨W.phi, W'.Z⟩ H a c := by
  cases c with
  | lst ds => obtain ⟨vs, q, r⟩ := h; exact ⟨vs, q, r.cut hp l⟩
  | dK ds => obtain ⟨vs, q, k, r⟩ := h; exact ⟨vs, q, k, r.cut hp (by rw [← lowK_iff]; exact l)⟩
  | dT ds => obtain ⟨vs, q, k, r⟩ := h; exact ⟨vs, q, k, r.cut hp (by rw [← lowT_iff]; exact l)⟩
  | ins c ds => obtain ⟨nm, ns, C, dx, vs, ht, hc, q, k, r⟩ := h; exact ⟨nm, ns, C, dx, vs, ht, hc, q, k, r.cut hp l⟩
theorem CellOk.isLow {c : Cell} (h : CellOk G W H a c) : lowC W.phi.length c = true := by
  cases c with
  | lst ds => obtain ⟨vs, q, r⟩ := h; exact r.isLow
  | dK ds => obtain ⟨vs, q, k, r⟩ := h; show lowK _ ds = true; rw [lowK_iff]; exact r.isLow
  | dT ds => obtain ⟨vs, q, k, r⟩ := h; show lowT _ ds = true; rw [lowT_iff]; exact r.isLow
  | ins c ds => obtain ⟨nm, ns, C, dx, vs, ht, hc, q, k, r⟩ := h; exact r.isLow
theorem okM_at {n : Nat} : ∀ {M M' : Mem}, okM n M M' = true → M.length = M'.length ∧ ∀ (l : Nat) (c' : Cell), M'[l]? = some c' → (∃ c, M[l]? = some c ∧ c.tree = c'.tree) ∨ lowC n c' = true
  | [], [], _ => ⟨rfl, fun l c' h => by simp at h⟩
  | [], _ :: _, h => by cases h
  | _ :: _, [], h => by cases h
  | c :: M, c2 :: M', h => by
    have h : ((sameD c.tree c2.tree || lowC n c2) && okM n M M') = true := h
    rw [Bool.and_eq_true, Bool.or_eq_true] at h
    obtain ⟨i1, i2⟩ := okM_at h.2
    refine ⟨by rw [List.length_cons, List.length_cons, i1], fun l c' q => ?_⟩
    cases l with
    | zero =>
      have q : c2 = c' := by simpa using q
      subst q
      rcases h.1 with z | z
      · exact .inl ⟨c, by simp, sameD_eq _ _ z⟩
      · exact .inr z
    | succ l =>
      have q : M'[l]? = some c' := by simpa using q
      rcases i2 l c' q with ⟨c0, z1, z2⟩ | z
      · exact .inl ⟨c0, by simpa using z1, z2⟩
      · exact .inr z
/-- the cells that are new are forgotten -/
theorem CRel.cut (c : CRel G W H M) (x : Ext W H W' H') (c' : CRel G W' H' M') (h : okM M.length M (M'.take M.length) = true) :
    Ext W H ⟨W.phi, W'.Z⟩ H' ∧ CRel G ⟨W.phi, W'.Z⟩ H' (M'.take M.length) := by
  obtain ⟨more, hp⟩ := x.ph
  obtain ⟨e1, e2⟩ := okM_at h
  have hz := x.toExt0
  refine ⟨⟨⟨⟨⟨[], by simp⟩, hz.z, hz.rd, hz.ls, hz.fz, hz.tp, hz.ob⟩, hz.fd⟩, fun a h => .inl h, x.zn, x.keep⟩, ⟨by rw [← e1]; exact c.len, fun l cl a h1 h2 => ?_, ?_, fun a ha => ?_, c'.zs⟩⟩
  · have hl : l < M.length := by rw [e1]; exact (List.getElem?_eq_some_iff.mp h1).1
    have hl' : l < W.phi.length := by rw [c.len]; exact hl
    have h1' : M'[l]? = some cl := by rw [← h1, List.getElem?_take_of_lt hl]
    have ok := c'.cel l cl a h1' (by rw [hp, List.getElem?_append_left hl']; exact h2)
    refine ok.cut hp ?_
    rw [c.len]
    rcases e2 l cl h1 with ⟨c0, q1, q2⟩ | q
    · have := (c.cel l c0 a q1 h2).isLow
      unfold lowC at this ⊢
      rw [← q2, ← c.len]; exact this
    · exact q
  · have := c'.nd
    rw [hp] at this
    exact (List.nodup_append.mp this).1
  · exact c'.sep a (by rw [hp]; exact List.mem_append_left _ ha)
end

/-! ### a def by its function -/
def spF (G : Gm) (n : Nat) (F : Fn) : Sp := fun vs H Q E => ∃ W M ds, CRel G W H M ∧ Reps G W H ds vs ∧ ds.length = n ∧ match F ds M with
  | .ok d M' => ∀ W' H' v, Ext W H W' H' → CRel G W' H' M' → Rep G W' H' d v → LenOk H' → Q v H'
  | .exc c es M' => ∀ W' H' C o, Ext W H W' H' → CRel G W' H' M' → ExcOk G W' H' c es C o → LenOk H' → E (.ref C) o H'
  | .bad => False
theorem spF_scp {G : Gm} {n : Nat} {F : Fn} {vs : List V} {H : Hp} {Q : VK} {E : XK} (h : spF G n (scp F) vs H Q E) : spF G n F vs H Q E := by
  obtain ⟨W, M, ds, c, r, hl, h⟩ := h
  refine ⟨W, M, ds, c, r, hl, ?_⟩
  unfold scp at h
  cases q : F ds M with
  | bad => rw [q] at h; exact h
  | ok d M' =>
    rw [q] at h
    dsimp only at h
    by_cases hk : (lowD M.length d && okM M.length M (M'.take M.length)) = true
    · rw [if_pos hk] at h
      rw [Bool.and_eq_true] at hk
      intro W' H' v x c' rv l
      obtain ⟨x2, c2⟩ := c.cut x c' hk.2
      obtain ⟨more, hp⟩ := x.ph
      exact h _ H' v x2 c2 (rv.cut hp (by rw [c.len]; exact hk.1)) l
    · rw [if_neg hk] at h
      exact h.elim
  | exc cn es M' =>
    rw [q] at h
    dsimp only at h
    by_cases hk : (lowDs M.length es && okM M.length M (M'.take M.length)) = true
    · rw [if_pos hk] at h
      rw [Bool.and_eq_true] at hk
      intro W' H' C o x c' rv l
      obtain ⟨x2, c2⟩ := c.cut x c' hk.2
      obtain ⟨more, hp⟩ := x.ph
      obtain ⟨nm, ns, h1, h2, h3⟩ := rv
      refine h _ H' C o x2 c2 ⟨nm, ns, h1, h2, ?_⟩ l
      rcases h3 with h3 | ⟨dx, us, e1, e2, e3, e4⟩
      · exact .inl h3
      · exact .inr ⟨dx, us, e1, e2, e3, e4.cut hp (by rw [c.len]; exact hk.1)⟩
    · rw [if_neg hk] at h
      exact h.elim

section
variable {P : Program} {w : World} {K : PySem.W.Frag} {mg : Str → Option Value} {base : Heap} {ct : List (Str × List Str)} {k j : Nat} {x : Str} {n : Nat} {F : Fn}
/-- a def of the module does what F does -/
structure DefOk (P : Program) (w : World) (K : PySem.W.Frag) (mg : Str → Option Value) (base : Heap) (ct : List (Str × List Str)) (k : Nat) (x : Str) (n : Nat) (F : Fn) : Prop where
  ex : ∃ f fd ps, mg x = some (.ref f) ∧ PySem.W.keepIn K (.ref f) = true ∧ Binds K fd ps [] ∧ FnOk P w K mg base (L2.CX P w) k f fd ps (spF ⟨K, mg, ct⟩ n F)
/-- a method of the class with the number c -/
structure MetOk (P : Program) (w : World) (K : PySem.W.Frag) (mg : Str → Option Value) (base : Heap) (ct : List (Str × List Str)) (k c : Nat) (x : Str) (n : Nat) (F : Fn) : Prop where
  ex : ∃ nm ns C f fd ps, ct[c]? = some (nm, ns) ∧ mg nm = some (.ref C) ∧ Cls K C ∧ x ∉ ns ∧ Meth K C x f ∧ Binds K fd ps [] ∧ FnOk P w K mg base (L2.CX P w) k f fd ps (spF ⟨K, mg, ct⟩ n F)
/-- .. its __init__ -/
structure IniOk (P : Program) (w : World) (K : PySem.W.Frag) (mg : Str → Option Value) (base : Heap) (ct : List (Str × List Str)) (k c : Nat) (nm : Str) (n : Nat) (F : Fn) : Prop where
  ex : ∃ ns C f fd ps, ct[c]? = some (nm, ns) ∧ mg nm = some (.ref C) ∧ Mk K C f ∧ Binds K fd ps [] ∧ FnOk P w K mg base (L2.CX P w) k f fd ps (spF ⟨K, mg, ct⟩ n F)
theorem DefOk.mono (h : DefOk P w K mg base ct j x n F) (hk : j ≤ k) : DefOk P w K mg base ct k x n F := by
  obtain ⟨f, fd, ps, h1, h2, h3, h4⟩ := h.ex
  exact ⟨f, fd, ps, h1, h2, h3, h4.mono hk⟩
theorem MetOk.mono {c : Nat} (h : MetOk P w K mg base ct j c x n F) (hk : j ≤ k) : MetOk P w K mg base ct k c x n F := by
  obtain ⟨nm, ns, C, f, fd, ps, h1, h2, h3, h4, h5, h6, h7⟩ := h.ex
  exact ⟨nm, ns, C, f, fd, ps, h1, h2, h3, h4, h5, h6, h7.mono hk⟩
theorem IniOk.mono {c : Nat} (h : IniOk P w K mg base ct j c x n F) (hk : j ≤ k) : IniOk P w K mg base ct k c x n F := by
  obtain ⟨ns, C, f, fd, ps, h1, h2, h3, h4, h5⟩ := h.ex
  exact ⟨ns, C, f, fd, ps, h1, h2, h3, h4, h5.mono hk⟩

/-- THE RULE for a def -/
theorem rel_start {G : Gm} {W : Wd} {H : Hp} {M : Mem} {ds : List D} {vs : List V} {N : List Str} {n np : Nat} (c : CRel G W H M) (r : Reps G W H ds vs) (hl : ds.length = np) (hn : N.length = n) (hle : np ≤ n) :
    Rel G W H W (L2.start N vs) H (ds.map Sl.sh ++ List.replicate (n - np) Sl.un) M := by
  have hv : vs.length = np := by rw [← r.length]; exact hl
  refine ⟨c, Ext.refl, fun i s hs => ?_, ?_, fun i j c1 c2 a h1 h2 h3 h4 => ?_⟩
  · by_cases q : i < ds.length
    · rw [List.getElem?_append_left (by rw [List.length_map]; exact q), List.getElem?_map] at hs
      obtain ⟨d, h1, h2⟩ := Option.map_eq_some_iff.mp hs
      subst h2
      obtain ⟨v, h3, h4⟩ := r.get h1
      refine ⟨v, ?_, h4⟩
      unfold L2.start
      rw [List.getElem?_append_left (by rw [List.length_map, ← r.length]; exact q), List.getElem?_map, h3]
      rfl
    · rw [List.getElem?_append_right (by rw [List.length_map]; exact Nat.le_of_not_lt q)] at hs
      have : s = .un := by
        rw [List.getElem?_replicate] at hs
        split at hs
        · exact (Option.some.inj hs).symm
        · cases hs
      subst this
      exact True.intro
  · unfold L2.start
    rw [List.length_append, List.length_append, List.length_map, List.length_map, List.length_replicate, List.length_replicate, r.length, hv, hn]
  · exfalso
    by_cases q : i < ds.length
    · rw [List.getElem?_append_left (by rw [List.length_map]; exact q), List.getElem?_map] at h1
      obtain ⟨d, _, e⟩ := Option.map_eq_some_iff.mp h1
      cases e
    · rw [List.getElem?_append_right (by rw [List.length_map]; exact Nat.le_of_not_lt q), List.getElem?_replicate] at h1
      split at h1 <;> cases h1
theorem ok_body {x qual : Str} {st : Stmt} {f : Addr} {fd : FuncData} {N ps : List Str} {np : Nat} {s : CS} (F : Fun K x qual st f fd) (S : FnScope N ps (defScope st)) (hn : N.length = n) (hp : ps.length = np) (hle : np ≤ n)
    (h : ∀ (cdv : Value) (A : Around) (outer : List PySem.Env) (s0 : Shared) (H : Hp) (E : XK), Room k (A.deeper (envOfC qual (defScope st) s0.heap.objs.size f cdv)) →
      PSsf (cxOf (L2.CX P w) P w K mg base N qual (defScope st) f cdv A outer s0 H E) ct (fun cls d _ H => E cls d H) (defBody st) s) : FnOk P w K mg base (L2.CX P w) (k + 1) f fd ps (spF ⟨K, mg, ct⟩ np (J.body n np s)) := by
  refine F.okX S (fun vs H Q E h => ?_) (fun cdv A outer s0 H vs Q E hr hsp => ?_)
  · obtain ⟨W, M, ds, c, r, hl, _⟩ := h
    rw [← r.length, hl, hp]
  · obtain ⟨W, M, ds, c, r, hl, hh⟩ := hsp
    refine ⟨_, h cdv A outer s0 H E hr, W, H, W, _, M, rel_start c r hl hn hle, ?_⟩
    unfold J.body at hh
    rw [if_pos hl] at hh
    cases q : s (ds.map Sl.sh ++ List.replicate (n - np) Sl.un) M with
    | bad => rw [q] at hh; exact hh
    | exc cn es M' => rw [q] at hh; exact hh
    | ok a M' =>
      rw [q] at hh
      obtain ⟨fl, E'⟩ := a
      cases fl with
      | nx => exact fun W' σ' H' x rel l => hh W' H' _ rel.ext rel.toCRel .non l
      | bk => exact hh.elim
      | ct => exact hh.elim
      | rt d => exact fun W' σ' H' x rel l v rv => hh W' H' v rel.ext rel.toCRel rv l
      | ex cn es => exact fun W' σ' H' x rel l C o he => hh W' H' C o rel.ext rel.toCRel he l
end
end J
namespace J
open PySem PySem.Spec L2 PyProof.Rows

section
variable {G : Gm} {Wx : WX} {W0 W W1 W' : Wd} {H0 H H1 H' : Hp} {σ : L2.St} {E : Env} {M M1 M' : Mem} {d : D} {v : V} {ds : List D} {vs : List V} {a : Addr} {n : Nat} {F : Fn} {Q : VK} {Ex : XK}
theorem Post.nox {r : R D} (p : Post G Wx (fun W' H' => Rep G W' H') W0 H0 W H σ E r.nox Q) : Post G (fun _ _ _ _ => False) (fun W' H' => Rep G W' H') W0 H0 W H σ E r Q := by
  cases r with
  | ok d M' => exact p
  | exc c ds M' => exact p.elim
  | bad => exact p
/-- a callee's promise, from what is wished behind the call -/
theorem spF_of (rel : Rel G W0 H0 W σ H E M) (r : Reps G W H ds vs) (hl : ds.length = n) (p : Post G Wx (fun W' H' => Rep G W' H') W0 H0 W H σ E (F ds M) Q) (hx : ∀ C o H', Wx C o σ H' → Ex C o H') : spF G n F vs H Q Ex := by
  refine ⟨W, M, ds, rel.toCRel, r, hl, ?_⟩
  cases q : F ds M with
  | bad => rw [q] at p; exact p
  | ok d M' => rw [q] at p; exact fun W' H' v x c rv l => p W' H' v x (rel.after x c) rv l
  | exc cn es M' => rw [q] at p; exact fun W' H' C o x c rv l => hx _ _ _ (p W' H' C o x (rel.after x c) rv l)
end

/-- as many arguments as wanted -/
@[simp] def ifN (n : Nat) (F : Fn) : Fn := fun ds M => if ds.length = n then F ds M else .bad

section
variable {X : Cx} {ct : List (Str × List Str)} {Wx : WX} {e e1 ei o a b tg iter elt value : Expr} {es ifs : List Expr} {f f1 f2 fi : CE} {r : CR} {it g : CA} {t t1 t2 : CT} {pos apos p p' : Pos} {x y m : Str} {n k c : Nat} {F : Fn}

theorem ifN_of {ds : List D} {M : Mem} {α : Type} {P : R D → Prop} (h : P (ifN n F ds M)) (hb : ¬ P .bad) : ds.length = n ∧ P (F ds M) := by
  unfold ifN at h
  by_cases q : ds.length = n
  · rw [if_pos q] at h; exact ⟨q, h⟩
  · rw [if_neg q] at h; exact (hb h).elim
theorem paf_nil' : PAf X ct Wx [] aNil := paf_nil

/-- f(..): nothing is raised -/
theorem pf_call0 (hr : Room k X.A) (D : DefOk X.prog X.w X.K X.mg X.base ct k x n F) (ha : PAf X ct Wx (e :: es) g) (hg : Gl X x := by rfl) (hdb : (x == ("__debug__" : Str)) = false := by decide) (he : starEach (e :: es) X.env = (false, eval e X.env) :: starEach es X.env := by rfl) (hpl : (backTo pos (starEach es X.env)).any (·.1) = false := by rfl) :
    PF X ct Wx (.Call (.Name x p) (e :: es) [] pos) (cCall0 (ifN n F) g) := by
  obtain ⟨fa, fd, ps, h1, h2, h3, h4⟩ := D.ex
  refine PE.fin (pe_call h4 hr hg h1 h2 h3 .nil passL ha hdb he hpl) ?_
  rintro σ H Q l ⟨W0, H0, W, E, M, rel, p⟩
  refine ⟨W0, H0, W, E, M, rel, Post.bind p fun ds M1 W1 H1 vs _ x1 rel1 r1 l1 p => ?_⟩
  rw [List.append_nil]
  obtain ⟨hl, p⟩ := ifN_of (α := Unit) (P := fun r => Post (Gx X ct) Wx (fun W' H' => Rep (Gx X ct) W' H') W0 H0 W1 H1 σ E r.nox Q) p id
  exact spF_of rel1 r1 hl (Post.nox (Post.pass p)) fun _ _ _ z => z
theorem pf_call00 (hr : Room k X.A) (D : DefOk X.prog X.w X.K X.mg X.base ct k x n F) (hg : Gl X x := by rfl) (hdb : (x == ("__debug__" : Str)) = false := by decide) :
    PF X ct Wx (.Call (.Name x p) [] [] pos) (cCall0 (ifN n F) aNil) := by
  obtain ⟨fa, fd, ps, h1, h2, h3, h4⟩ := D.ex
  refine PE.fin (pe_call0 h4 hr hg h1 h2 h3 .nil passL hdb) ?_
  rintro σ H Q l ⟨W0, H0, W, E, M, rel, p⟩
  obtain ⟨hl, p⟩ := ifN_of (α := Unit) (P := fun r => Post (Gx X ct) Wx (fun W' H' => Rep (Gx X ct) W' H') W0 H0 W H σ E r.nox Q) p id
  exact spF_of rel .nil hl (Post.nox (Post.pass p)) fun _ _ _ z => z
/-- f(..): what is raised goes on -/
theorem pf_call (tk : Takes X Wx) (hr : Room k X.A) (D : DefOk X.prog X.w X.K X.mg X.base ct k x n F) (ha : PAf X ct Wx (e :: es) g) (hg : Gl X x := by rfl) (hdb : (x == ("__debug__" : Str)) = false := by decide) (he : starEach (e :: es) X.env = (false, eval e X.env) :: starEach es X.env := by rfl) (hpl : (backTo pos (starEach es X.env)).any (·.1) = false := by rfl) :
    PF X ct Wx (.Call (.Name x p) (e :: es) [] pos) (cCall (ifN n F) g) := by
  obtain ⟨fa, fd, ps, h1, h2, h3, h4⟩ := D.ex
  refine PE.fin (pe_callS h4 hr hg h1 h2 h3 (passAt tk) ha hdb he hpl) ?_
  rintro σ H Q l ⟨W0, H0, W, E, M, rel, p⟩
  refine ⟨W0, H0, W, E, M, rel, Post.bind p fun ds M1 W1 H1 vs _ x1 rel1 r1 l1 p => ?_⟩
  obtain ⟨hl, p⟩ := ifN_of (α := Unit) (P := fun r => Post (Gx X ct) Wx (fun W' H' => Rep (Gx X ct) W' H') W0 H0 W1 H1 σ E r Q) p id
  exact spF_of rel1 r1 hl (Post.pass p) fun _ _ _ z => z

/-! ### methods -/
theorem lookup_none {f : Str} : ∀ {vs : List (Str × V)}, f ∉ vs.map (·.1) → vs.lookup f = none
  | [], _ => rfl
  | (g, w) :: vs, h => by
    have ne : ¬ f = g := fun z => h (by rw [List.map_cons]; exact List.mem_cons.mpr (.inl z))
    rw [List.lookup_cons]
    have : (f == g) = false := by simpa using ne
    rw [this]
    exact lookup_none fun z => h (by rw [List.map_cons]; exact List.mem_cons.mpr (.inr z))
@[simp] def cMethN (c n : Nat) (F : Fn) (o : CE) (g : CA) : CE := fun E M => (o E M).bind fun d M => match view M d with
  | .obj c' _ => if c' = c then (g E M).bind fun ds M => (ifN n F (d :: ds) M).nox else .bad
  | _ => .bad
theorem pf_meth (hr : Room k X.A) (D : MetOk X.prog X.w X.K X.mg X.base ct k c m n F) (ho : PF X ct Wx o f) (ha : PAf X ct Wx (e :: es) g) {pl : Sem Bool} (hst : starEach (e :: es) X.env = (false, eval e X.env) :: starEach es X.env := by rfl) (hpl : (backTo pos (starEach es X.env)).any (·.1) = false := by rfl)
    (ht : eval (.Call (.Attribute o m apos) (e :: es) [] pos) X.env = (do
      let ov ← eval o X.env
      standAt apos.atName
      let (f, first) ← holding [ov] (getMethod ov m pl)
      callWith pos f first (backTo pos (starEach (e :: es) X.env)) (backToKw pos (keywordEach [] X.env))) := by rfl) :
    PF X ct Wx (.Call (.Attribute o m apos) (e :: es) [] pos) (cMethN c n F f g) := by
  obtain ⟨nm, ns, C, fa, fd, ps, h1, h2, h3, h4, h5, h6, h7⟩ := D.ex
  refine PE.fin (pe_meth ho h3 h5 h7 hr h6 .nil passL ha hst hpl ht) ?_
  rintro σ H Q l ⟨W0, H0, W, E, M, rel, p⟩
  refine ⟨W0, H0, W, E, M, rel, Post.bind p fun d M1 W1 H1 v _ x1 rel1 r1 l1 pp => ?_⟩
  clear p
  split at pp
  · rename_i c' ds0 ev
    by_cases ec : c' = c
    · rw [if_pos ec] at pp
      subst ec
      obtain ⟨nm', ns', p1, C', dx, vs, rfl, t1, t2, h, hk, rr⟩ := see_obj rel1 (.rep r1) ev
      have t1 : ct[c']? = some (nm', ns') := t1
      rw [h1] at t1
      cases t1
      rw [show (Gx X ct).mg = X.mg from rfl, h2] at t2
      cases t2
      refine ⟨p1, dx, vs, rfl, h, lookup_none (by rw [hk]; exact fun z => h4 (List.mem_of_mem_take z)), W0, H0, W1, E, M1, rel1, Post.bind pp fun ds M2 W2 H2 vs2 _ x2 rel2 r2 l2 pq => ?_⟩
      rw [List.append_nil]
      obtain ⟨hl, p⟩ := ifN_of (α := Unit) (P := fun r => Post (Gx X ct) Wx (fun W' H' => Rep (Gx X ct) W' H') W0 H0 W2 H2 σ E r.nox Q) pq id
      exact spF_of rel2 (.cons (r1.mono x2.toExt0) r2) hl (Post.nox (Post.pass p)) fun _ _ _ z => z
    · rw [if_neg ec] at pp; exact pp.elim
  · exact pp.elim
theorem pf_meth0 (hr : Room k X.A) (D : MetOk X.prog X.w X.K X.mg X.base ct k c m n F) (ho : PF X ct Wx o f) {pl : Sem Bool}
    (ht : eval (.Call (.Attribute o m apos) [] [] pos) X.env = (do
      let ov ← eval o X.env
      standAt apos.atName
      let (f, first) ← holding [ov] (getMethod ov m pl)
      callWith pos f first (backTo pos (starEach [] X.env)) (backToKw pos (keywordEach [] X.env))) := by rfl) :
    PF X ct Wx (.Call (.Attribute o m apos) [] [] pos) (cMethN c n F f aNil) := by
  obtain ⟨nm, ns, C, fa, fd, ps, h1, h2, h3, h4, h5, h6, h7⟩ := D.ex
  refine PE.fin (pe_meth0 ho h3 h5 h7 hr h6 .nil passL ht) ?_
  rintro σ H Q l ⟨W0, H0, W, E, M, rel, p⟩
  refine ⟨W0, H0, W, E, M, rel, Post.bind p fun d M1 W1 H1 v _ x1 rel1 r1 l1 pp => ?_⟩
  clear p
  split at pp
  · rename_i c' ds0 ev
    by_cases ec : c' = c
    · rw [if_pos ec] at pp
      subst ec
      obtain ⟨nm', ns', p1, C', dx, vs, rfl, t1, t2, h, hk, rr⟩ := see_obj rel1 (.rep r1) ev
      have t1 : ct[c']? = some (nm', ns') := t1
      rw [h1] at t1
      cases t1
      rw [show (Gx X ct).mg = X.mg from rfl, h2] at t2
      cases t2
      refine ⟨p1, dx, vs, rfl, h, lookup_none (by rw [hk]; exact fun z => h4 (List.mem_of_mem_take z)), ?_⟩
      obtain ⟨hl, p⟩ := ifN_of (α := Unit) (P := fun r => Post (Gx X ct) Wx (fun W' H' => Rep (Gx X ct) W' H') W0 H0 W1 H1 σ E r.nox Q) pp id
      exact spF_of rel1 (.cons r1 .nil) hl (Post.nox (Post.pass p)) fun _ _ _ z => z
    · rw [if_neg ec] at pp; exact pp.elim
  · exact pp.elim

/-! ### instances -/
theorem make_rel {G : Gm} {W0 W1 : Wd} {H0 H1 : Hp} {σ : L2.St} {E : Env} {M1 : Mem} {ds : List D} {vs : List V} {x dx C : Addr} {cn : Nat} {nm : Str} {ns : List Str} (t1 : G.ct[cn]? = some (nm, ns)) (t2 : G.mg nm = some (.ref C)) (rel1 : Rel G W0 H0 W1 σ H1 E M1) (r1 : Reps G W1 H1 ds vs)
    (hx : H1 x = none) (hd : H1 dx = none) (ne : dx ≠ x) :
    Ext W1 H1 (W1.add x) (upd (upd H1 dx (.own x)) x (.ins C dx [])) ∧ Rel G W0 H0 (W1.add x) σ (upd (upd H1 dx (.own x)) x (.ins C dx [])) E (M1 ++ [.ins cn []]) ∧ Reps G (W1.add x) (upd (upd H1 dx (.own x)) x (.ins C dx [])) ds vs ∧
      Rep G (W1.add x) (upd (upd H1 dx (.own x)) x (.ins C dx [])) (.loc M1.length) (.ref x) := by
  have xa := Ext.new (o := .own x) rel1.toCRel hd
  have rela := rel1.after xa (rel1.toCRel.new hd)
  have hx' : upd H1 dx (.own x) x = none := by rw [upd_ne (Ne.symm ne)]; exact hx
  have xb := Ext.new (o := .ins C dx []) rela.toCRel hx'
  have relb := rela.after xb (rela.toCRel.new hx')
  have asd : Aside W1 σ E x := Aside.new rel1 hx
  have z0 : H0 x = none := rel1.toCRel.was rel1.ext hx
  have relc := relb.addLoc (a := x) (c := .ins cn []) ⟨nm, ns, C, dx, [], t1, t2, upd_same, by simp, .nil⟩ asd z0
  have xab := Ext.trans rela.toCRel xa xb
  refine ⟨⟨xab.toExt0.trans Ext0.add, fun a ha => ?_, xab.zn, xab.keep⟩, relc, (r1.mono xab.toExt0).mono Ext0.add, .loc (by rw [← rel1.len]; simp)⟩
  rcases List.mem_append.mp ha with q | q
  · exact .inl q
  · rw [List.mem_singleton.mp q]; exact .inr hx
/-- C(..), a common cell -/
@[simp] def cMk (c n : Nat) (F : Fn) (g : CA) : CE := fun E M => (g E M).bind fun ds M1 => match ifN n F (.loc M1.length :: ds) (M1 ++ [.ins c []]) with
  | .ok .non M' => .ok (.loc M1.length) M'
  | _ => .bad
theorem pf_mk (hr : Room (k + 1) X.A) (D : IniOk X.prog X.w X.K X.mg X.base ct k c x n F) (ha : PAf X ct Wx (e :: es) g) (hg : Gl X x := by rfl) (hdb : (x == ("__debug__" : Str)) = false := by decide) (he : starEach (e :: es) X.env = (false, eval e X.env) :: starEach es X.env := by rfl) (hpl : (backTo pos (starEach es X.env)).any (·.1) = false := by rfl) :
    PF X ct Wx (.Call (.Name x p) (e :: es) [] pos) (cMk c n F g) := by
  obtain ⟨ns, C, fa, fd, ps, h1, h2, h3, h4, h5⟩ := D.ex
  refine PE.fin (pe_make h3 h5 hr hg h2 h4 .nil passL ha hdb he hpl) ?_
  rintro σ H Q l ⟨W0, H0, W, E, M, rel, p⟩
  refine ⟨W0, H0, W, E, M, rel, Post.bind p fun ds M1 W1 H1 vs _ x1 rel1 r1 l1 pq => ?_⟩
  clear p
  intro xa dx hx hd ne
  rw [List.append_nil]
  obtain ⟨x2, rel2, r2, rx⟩ := make_rel (G := Gx X ct) (cn := c) h1 h2 rel1 r1 hx hd ne
  obtain ⟨hl, pq⟩ := ifN_of (α := Unit) (P := fun r => Post (Gx X ct) Wx (fun W' H' => Rep (Gx X ct) W' H') W0 H0 W1 H1 σ E (match r with | .ok .non M' => R.ok (.loc M1.length) M' | _ => R.bad) Q) pq id
  refine ⟨W1.add xa, _, _, rel2.toCRel, .cons rx r2, hl, ?_⟩
  cases q : F (.loc M1.length :: ds) (M1 ++ [.ins c []]) with
  | bad => rw [q] at pq; exact pq
  | exc cn es M' => rw [q] at pq; exact pq.elim
  | ok d M' =>
    rw [q] at pq
    intro W' H' v x3 c3 r3 l3
    cases r3 with
    | non => exact ⟨rfl, fun _ => pq W' H' _ (Ext.trans rel2.toCRel x2 x3) (rel2.after x3 c3) (rx.mono x3.toExt0) l3⟩
    | _ => exact pq.elim
/-- C(..), nobody's yet -/
@[simp] def cMkN (c n : Nat) (F : Fn) (g : CA) : CE := fun E M => (g E M).bind fun ds M1 => match ifN n F (.loc M1.length :: ds) (M1 ++ [.ins c []]) with
  | .ok .non M' => match M'[M1.length]? with
    | some (.ins c' fs) => if (lowDs M1.length fs && okM M1.length M1 (M'.take M1.length)) = true then .ok (.obj c' fs) (M'.take M1.length) else .bad
    | _ => .bad
  | _ => .bad
theorem n_mk (hr : Room (k + 1) X.A) (D : IniOk X.prog X.w X.K X.mg X.base ct k c x n F) (ha : PAf X ct Wx (e :: es) g) (hg : Gl X x := by rfl) (hdb : (x == ("__debug__" : Str)) = false := by decide) (he : starEach (e :: es) X.env = (false, eval e X.env) :: starEach es X.env := by rfl) (hpl : (backTo pos (starEach es X.env)).any (·.1) = false := by rfl) :
    PNf X ct Wx (.Call (.Name x p) (e :: es) [] pos) (cMkN c n F g) := by
  obtain ⟨ns, C, fa, fd, ps, h1, h2, h3, h4, h5⟩ := D.ex
  refine PE.fin (pe_make h3 h5 hr hg h2 h4 .nil passL ha hdb he hpl) ?_
  rintro σ H Q l ⟨W0, H0, W, E, M, rel, p⟩
  refine ⟨W0, H0, W, E, M, rel, Post.bind p fun ds M1 W1 H1 vs _ x1 rel1 r1 l1 pq => ?_⟩
  clear p
  intro xa dx hx hd ne
  rw [List.append_nil]
  obtain ⟨x2, rel2, r2, rx⟩ := make_rel (G := Gx X ct) (cn := c) h1 h2 rel1 r1 hx hd ne
  obtain ⟨hl, pq⟩ := ifN_of (α := Unit) (P := fun r => Post (Gx X ct) Wx (RpN (Gx X ct) σ E H) W0 H0 W1 H1 σ E (match r with
    | .ok .non M' => (match M'[M1.length]? with
      | some (.ins c' fs) => if (lowDs M1.length fs && okM M1.length M1 (M'.take M1.length)) = true then R.ok (.obj c' fs) (M'.take M1.length) else .bad
      | _ => .bad)
    | _ => R.bad) Q) pq id
  refine ⟨W1.add xa, _, _, rel2.toCRel, .cons rx r2, hl, ?_⟩
  cases q : F (.loc M1.length :: ds) (M1 ++ [.ins c []]) with
  | bad => rw [q] at pq; exact pq
  | exc cn es M' => rw [q] at pq; exact pq.elim
  | ok d M' =>
    rw [q] at pq
    intro W' H' v x3 c3 r3 l3
    cases r3 with
    | non =>
      refine ⟨rfl, fun _ => ?_⟩
      dsimp only at pq
      cases qm : M'[M1.length]? with
      | none => rw [qm] at pq; exact pq.elim
      | some cl =>
        rw [qm] at pq
        cases cl with
        | ins c' fs =>
          dsimp only at pq
          by_cases hk : (lowDs M1.length fs && okM M1.length M1 (M'.take M1.length)) = true
          · rw [if_pos hk] at pq
            rw [Bool.and_eq_true] at hk
            have x12 := Ext.trans rel2.toCRel x2 x3
            obtain ⟨xc, cc⟩ := rel1.toCRel.cut x12 c3 hk.2
            have asd : Aside W1 σ E xa := Aside.new rel1 hx
            have hph : W'.phi[M1.length]? = some xa := by
              have := rx.mono x3.toExt0
              cases this with
              | loc h => exact h
            obtain ⟨more, hp⟩ := x12.ph
            have ok1 := c3.cel _ _ _ qm hph
            have ok2 := ok1.cut hp (by rw [rel1.len]; exact hk.1)
            exact pq _ H' _ xc (rel1.after xc cc) ⟨xa, .ins c' fs, rfl, rfl, ok2, ⟨asd.ph, c3.sep xa (List.mem_of_getElem? hph), asd.ow⟩, rel1.toCRel.was x1 hx⟩ l3
          · rw [if_neg hk] at pq; exact pq.elim
        | _ => exact pq.elim
    | _ => exact pq.elim

/-! ### a field that holds a def -/
@[simp] def cMethV (c j : Nat) (T : Str → Option Fn) (n : Nat) (o : CE) (g : CA) : CE := fun E M => (o E M).bind fun d M => match gFld c j (view M d) with
  | some (.fn x) => match T x with
    | some F => (g E M).bind fun ds M => (ifN n F ds M).nox
    | none => .bad
  | _ => .bad
def tMethV (C : Addr) (m : Str) (S : Addr → Sp → Prop) (E : XK) (ta : TE) (t : TA) : TE := fun σ H Q => ta σ H fun x H1 => ∃ a dx fs f sp, x = .ref a ∧ H1 a = some (.ins C dx fs) ∧ fs.lookup m = some (.ref f) ∧ S f sp ∧
  t σ H1 fun vs H2 => sp vs H2 Q E
theorem getfld_ok {pins : List (Addr × Obj)} {σ : L2.St} {H : Hp} {s : Shared} {a C dx : Addr} {fs : List (Str × V)} {A : Around} {Eq : Value → Shared → Prop} {pl : Sem Bool} {v : V} {Q : Value × List Value → Shared → Prop} (I : Inv X pins σ H s) (h : H a = some (.ins C dx fs)) (c : Cls X.K C) (n : NoAttr X.K C m) (l : fs.lookup m = some v)
    (hq : ∀ u s', Inv X pins σ H s' → RelV v u → Q (u, []) s') : wpAny (model X.prog X.w) A (getMethod (.ref a) m pl) Q Eq s := by
  obtain ⟨mA, O, r, _, _, _⟩ := ins_get I.hok h
  obtain ⟨od, J, hl⟩ := O.look
  refine PySem.W.method_usual I.kIn J (PySem.W.plainGet_of (c.get m)).1 (PySem.W.plainGet_of (c.get m)).2 n rfl ?_
  exact getattr_ok I h c n l fun u s' I' ru => hq u s' I' ru
theorem pe_methV {S : Addr → Sp → Prop} {Ex : XK} {CX : CXT} {C : Addr} {ta : TE} {t : TA} {pl : Sem Bool} (he : PE X o ta) (cl : Cls X.K C) (hn : NoAttr X.K C m) (hr : Room k X.A) (hS : ∀ f sp, S f sp → ∃ fd ps, PySem.W.keepIn X.K (.ref f) = true ∧ Binds X.K fd ps [] ∧ FnOk X.prog X.w X.K X.mg X.base CX k f fd ps sp) (hx : Passes CX X Ex) (ha : PA X (e :: es) t)
    (hst : starEach (e :: es) X.env = (false, eval e X.env) :: starEach es X.env := by rfl) (hpl : (backTo pos (starEach es X.env)).any (·.1) = false := by rfl)
    (ht : eval (.Call (.Attribute o m apos) (e :: es) [] pos) X.env = (do
      let ov ← eval o X.env
      standAt apos.atName
      let (f, first) ← holding [ov] (getMethod ov m pl)
      callWith pos f first (backTo pos (starEach (e :: es) X.env)) (backToKw pos (keywordEach [] X.env))) := by rfl) :
    PE X (.Call (.Attribute o m apos) (e :: es) [] pos) (tMethV C m S Ex ta t) := by
  refine ⟨fun pins s σ H Q I h => ?_⟩
  refine PySem.W.methodCall_KW (pl := pl) (thn (he.run pins s σ H _ I h) fun u s1 ⟨x, H1, I1, rx, a, dx, fs, f, sp, ex, ea, l, hs, q⟩ => ?_) ht
  subst ex
  obtain rfl : u = Value.ref a := rx
  obtain ⟨fd, ps, hk, hb, F⟩ := hS f sp hs
  refine getfld_ok I1 ea cl hn l fun u s2 I2 ru => ?_
  obtain rfl : u = Value.ref f := ru
  refine PySem.W.callWith_K (first := []) (h₀ := X.base) I.ok.mod.kin hk (thn (ha.run pos pins s2 σ H1 _ I2 q) fun us s3 ⟨vs, H3, I3, r, q2⟩ => ⟨I3.kIn, ?_⟩) hst hpl
  exact run_fn F hr hb .nil hx I3 r (by rw [List.append_nil]; exact q2)
theorem pf_methV {T : Str → Option Fn} (cn j : Nat) (hC : ClsX X.K X.mg ct cn) (hr : Room k X.A) (hT : ∀ x F, T x = some F → DefOk X.prog X.w X.K X.mg X.base ct k x n F) (ho : PF X ct Wx o f) (ha : PAf X ct Wx (e :: es) g) (hj : (ct[cn]?.bind fun p => p.2[j]?) = some m := by rfl) {pl : Sem Bool}
    (hst : starEach (e :: es) X.env = (false, eval e X.env) :: starEach es X.env := by rfl) (hpl : (backTo pos (starEach es X.env)).any (·.1) = false := by rfl)
    (ht : eval (.Call (.Attribute o m apos) (e :: es) [] pos) X.env = (do
      let ov ← eval o X.env
      standAt apos.atName
      let (f, first) ← holding [ov] (getMethod ov m pl)
      callWith pos f first (backTo pos (starEach (e :: es) X.env)) (backToKw pos (keywordEach [] X.env))) := by rfl) :
    PF X ct Wx (.Call (.Attribute o m apos) (e :: es) [] pos) (cMethV cn j T n f g) := by
  obtain ⟨nm, ns, C, h1, h2, cl, nd, _, no⟩ := hC.ex
  rw [h1] at hj
  have hj : ns[j]? = some m := hj
  -- the promises by address
  let S : Addr → Sp → Prop := fun a sp => ∃ x F, T x = some F ∧ X.mg x = some (.ref a) ∧ sp = spF (Gx X ct) n F
  have hS : ∀ a sp, S a sp → ∃ fd ps, PySem.W.keepIn X.K (.ref a) = true ∧ Binds X.K fd ps [] ∧ FnOk X.prog X.w X.K X.mg X.base (L2.CX X.prog X.w) k a fd ps sp := by
    rintro a sp ⟨x, F, t1, t2, rfl⟩
    obtain ⟨fa, fd, ps, q1, q2, q3, q4⟩ := (hT x F t1).ex
    rw [t2] at q1
    cases q1
    exact ⟨fd, ps, q2, q3, q4⟩
  refine PE.fin (pe_methV (S := S) ho cl (no m (List.mem_of_getElem? hj)) hr hS passL ha hst hpl ht) ?_
  rintro σ H Q l ⟨W0, H0, W, E, M, rel, p⟩
  refine ⟨W0, H0, W, E, M, rel, Post.bind p fun d M1 W1 H1 v _ x1 rel1 r1 l1 pp => ?_⟩
  clear p
  cases qg : gFld cn j (view M1 d) with
  | none => rw [qg] at pp; exact pp.elim
  | some d2 =>
    rw [qg] at pp
    cases d2 with
    | fn y =>
      dsimp only at pp
      cases qT : T y with
      | none => rw [qT] at pp; exact pp.elim
      | some F =>
        rw [qT] at pp
        dsimp only at pp
        unfold gFld at qg
        split at qg
        · rename_i c' ds0 ev
          split at qg
          · rename_i ec
            subst ec
            obtain ⟨nm', ns', p1, C', dx, vs, rfl, t1, t2, h, hk, rr⟩ := see_obj rel1 (.rep r1) ev
            have t1 : ct[c']? = some (nm', ns') := t1
            rw [h1] at t1
            cases t1
            rw [show (Gx X ct).mg = X.mg from rfl, h2] at t2
            cases t2
            obtain ⟨w, g1, g2⟩ := rr.get qg
            cases g2 with
            | @fn fa x hf =>
              have hlt : j < ds0.length := (List.getElem?_eq_some_iff.mp qg).1
              refine ⟨p1, dx, vs, fa, _, rfl, h, lookup_at hk (nd.sublist (List.take_sublist _ _)) (by rw [List.getElem?_take_of_lt hlt]; exact hj) g1, ⟨y, F, qT, hf, rfl⟩, W0, H0, W1, E, M1, rel1, Post.bind pp fun ds M2 W2 H2 vs2 _ x2 rel2 r2 l2 pq => ?_⟩
              obtain ⟨hl, pq⟩ := ifN_of (α := Unit) (P := fun r => Post (Gx X ct) Wx (fun W' H' => Rep (Gx X ct) W' H') W0 H0 W2 H2 σ E r.nox Q) pq id
              exact spF_of rel2 r2 hl (Post.nox (Post.pass pq)) fun _ _ _ z => z
          · cases qg
        · cases qg
    | _ => exact pp.elim
end
/-- a table of defs by name -/
def tabL : List (Str × Fn) → Str → Option Fn
  | [], _ => none
  | (y, F) :: r, x => if x = y then some F else tabL r x
@[simp] def noF : Fn := fun _ _ => .bad
end J
namespace J
open PySem PySem.Spec L2 PyProof.Rows

/-! ### a dict is locked while it is walked -/
section
variable {G : Gm} {Wx : WX} {W0 W W1 W' : Wd} {H0 H H1 H' : Hp} {σ σ' : L2.St} {E E' : Env} {M M1 M' : Mem} {d : Addr} {u : HO} {od : Obj}
theorem isDict_nofrz {o : Obj} {f : HO} (h : isDict u = true) : u ≠ .frz o f := by intro q; subst q; cases h
theorem Ext0.lock (h : H d = some u) (du : isDict u = true) : Ext0 W H W (upd H d (.frz od u)) := by
  have ne : ∀ {b f}, H b = some f → f ≠ u → b ≠ d := fun {b f} e n q => by subst q; rw [h] at e; exact n (Option.some.inj e).symm
  refine ⟨⟨⟨[], by simp⟩, fun _ z => z, fun a f z hf r => ?_, fun a vs z e => ?_, fun a o vs e => ?_, fun a xs e => ?_, fun a C dx fs z e => ?_⟩, fun a o f e => ?_⟩
  · by_cases q : a = d
    · subst q
      rcases r with r | ⟨o, r⟩
      · rw [h] at r; cases r; exact .inr ⟨od, upd_same⟩
      · rw [h] at r; cases r; cases du
    · rcases r with r | ⟨o, r⟩
      · exact .inl (by rw [upd_ne q]; exact r)
      · exact .inr ⟨o, by rw [upd_ne q]; exact r⟩
  · rw [upd_ne (ne e (by intro q; subst q; cases du))]; exact e
  · rw [upd_ne (ne e (by intro q; subst q; cases du))]; exact e
  · rw [upd_ne (ne e (by intro q; subst q; cases du))]; exact e
  · rw [upd_ne (ne e (by intro q; subst q; cases du))]; exact e
  · rw [upd_ne (ne e (by intro q; subst q; cases du))]; exact e
theorem Rel.notZ0 (r : Rel G W0 H0 W σ H E M) (z : W.Z d) {o : HO} (h : H0 d = some o) (n : ¬ W0.Z d) : False := by
  rcases r.ext.zn d z with q | q
  · exact n q
  · rw [h] at q; cases q
theorem Rel.lock (r : Rel G W0 H0 W σ H E M) (z : W.Z d) (h : H d = some u) (du : isDict u = true) : Rel G W0 H0 W σ (upd H d (.frz od u)) E M := by
  have x : Ext0 W H W (upd H d (.frz od u)) := Ext0.lock h du
  refine ⟨⟨r.len, fun l cl b h1 h2 => (r.cel l cl b h1 h2).mono x fun o ho => by rw [upd_ne (fun q => r.sep b (List.mem_of_getElem? h2) (by rw [q]; exact z))]; exact ho, r.nd, r.sep, fun b zb => ?_⟩, ⟨r.ext.toExt0.trans x, r.ext.fr, r.ext.zn, fun b o e n1 n2 => ?_⟩, fun i s hs => ?_, r.sz, r.own⟩
  · by_cases q : b = d
    · subst q; exact ⟨_, upd_same⟩
    · rw [upd_ne q]; exact r.zs b zb
  · rw [upd_ne (fun q => by subst q; exact r.notZ0 z e n2)]; exact r.ext.keep b o e n1 n2
  · have q := r.slt i s hs
    cases s with
    | un => exact True.intro
    | sh d => obtain ⟨w, e2, h2⟩ := q; exact ⟨w, e2, h2.mono x⟩
    | ow c => obtain ⟨b, e2, h2, n1, n2, n3⟩ := q; exact ⟨b, e2, h2.mono x fun o ho => by rw [upd_ne (fun q => n2 (by rw [q]; exact z))]; exact ho, n1, n2, n3⟩
theorem ExtV.trans (a : ExtV W H W1 H1) (b : ExtV W1 H1 W' H') : ExtV W H W' H' := by
  obtain ⟨m1, e1⟩ := a.ph
  obtain ⟨m2, e2⟩ := b.ph
  exact ⟨⟨m1 ++ m2, by rw [e2, e1, List.append_assoc]⟩, fun p z => b.z p (a.z p z), fun p u z f r => b.rd p u (a.z p z) f (a.rd p u z f r), fun p vs z h => b.ls p vs (a.z p z) (a.ls p vs z h), fun p o vs h => b.fz p o vs (a.fz p o vs h), fun p xs h => b.tp p xs (a.tp p xs h), fun p C dx fs z h => b.ob p C dx fs (a.z p z) (a.ob p C dx fs z h)⟩
theorem ExtV.unlock (h : H' d = some (.frz od u)) (du : isDict u = true) : ExtV W' H' W' (upd H' d u) := by
  have ne : ∀ {b f}, H' b = some f → f ≠ .frz od u → b ≠ d := fun {b f} e n q => by subst q; rw [h] at e; exact n (Option.some.inj e).symm
  refine ⟨⟨[], by simp⟩, fun _ z => z, fun a f z hf r => ?_, fun a vs z e => ?_, fun a o vs e => ?_, fun a xs e => ?_, fun a C dx fs z e => ?_⟩
  · by_cases q : a = d
    · subst q
      rcases r with r | ⟨o, r⟩
      · rw [h] at r; cases r; cases hf
      · rw [h] at r; cases r; exact .inl upd_same
    · rcases r with r | ⟨o, r⟩
      · exact .inl (by rw [upd_ne q]; exact r)
      · exact .inr ⟨o, by rw [upd_ne q]; exact r⟩
  · rw [upd_ne (ne e (by intro q; cases q))]; exact e
  · rw [upd_ne (ne e (by intro q; cases q; cases du))]; exact e
  · rw [upd_ne (ne e (by intro q; cases q))]; exact e
  · rw [upd_ne (ne e (by intro q; cases q))]; exact e
theorem Rel.unlock (rel0 : Rel G W0 H0 W σ H E M) (h : H d = some u) (du : isDict u = true) (z : W.Z d) (x : Ext0 W (upd H d (.frz od u)) W' H') (r : Rel G W0 H0 W' σ' H' E' M') :
    Ext0 W H W' (upd H' d u) ∧ Rel G W0 H0 W' σ' (upd H' d u) E' M' := by
  have hf : H' d = some (.frz od u) := x.fd d od u upd_same
  have z' : W'.Z d := x.z d z
  have xl : Ext0 W H W (upd H d (.frz od u)) := Ext0.lock h du
  have xu : ExtV W' H' W' (upd H' d u) := ExtV.unlock hf du
  refine ⟨⟨(xl.toExtV.trans x.toExtV).trans xu, fun a o f e => ?_⟩, ⟨r.len, fun l cl b h1 h2 => (r.cel l cl b h1 h2).monoV xu fun o ho => by rw [upd_ne (fun q => r.sep b (List.mem_of_getElem? h2) (by rw [q]; exact z'))]; exact ho, r.nd, r.sep, fun b zb => ?_⟩,
    ⟨⟨r.ext.toExtV.trans xu, fun a o f e => ?_⟩, r.ext.fr, r.ext.zn, fun b o e n1 n2 => ?_⟩, fun i s hs => ?_, r.sz, r.own⟩
  · have n : a ≠ d := fun q => by subst q; rw [h] at e; cases e; cases du
    rw [upd_ne n]
    exact x.fd a o f (by rw [upd_ne n]; exact e)
  · by_cases q : b = d
    · subst q; exact ⟨_, upd_same⟩
    · rw [upd_ne q]; exact r.zs b zb
  · have n : a ≠ d := fun q => by
      subst q
      have := rel0.ext.fd a o f e
      rw [h] at this; cases this; cases du
    rw [upd_ne n]; exact r.ext.fd a o f e
  · rw [upd_ne (fun q => by subst q; exact rel0.notZ0 z e n2)]; exact r.ext.keep b o e n1 n2
  · have q := r.slt i s hs
    cases s with
    | un => exact True.intro
    | sh d => obtain ⟨w, e2, h2⟩ := q; exact ⟨w, e2, h2.monoV xu⟩
    | ow c => obtain ⟨b, e2, h2, n1, n2, n3⟩ := q; exact ⟨b, e2, h2.monoV xu fun o ho => by rw [upd_ne (fun q => n2 (by rw [q]; exact z'))]; exact ho, n1, n2, n3⟩
def lockD (d : Addr) (od : Obj) (u : HO) (D : Ends) : Ends := ⟨fun σ' H' => H' d = some (.frz od u) ∧ D.nx σ' (upd H' d u), fun v H' => H' d = some (.frz od u) ∧ D.rt v (upd H' d u), fun σ' H' => H' d = some (.frz od u) ∧ D.bk σ' (upd H' d u), fun σ' H' => H' d = some (.frz od u) ∧ D.ct σ' (upd H' d u)⟩
theorem PostS.lock {r : R (Fl × Env)} {D : Ends} (rel0 : Rel G W0 H0 W σ H E M) (h : H d = some u) (du : isDict u = true) (z : W.Z d) (p : PostS G Wx W0 H0 W H r D) : PostS G Wx W0 H0 W (upd H d (.frz od u)) r (lockD d od u D) := by
  cases r with
  | bad => exact p
  | exc c ds M => exact p
  | ok a M' =>
    intro W' σ' H' x r l
    obtain ⟨fl, E'⟩ := a
    obtain ⟨xu, ru⟩ := rel0.unlock h du z x r
    have hf : H' d = some (.frz od u) := x.fd d od u upd_same
    have lu : LenOk (upd H' d u) := l.upd (fun vs q => by subst q; cases du) (fun vs q => by subst q; cases du) fun o f q => by subst q; cases du
    cases fl with
    | nx => exact ⟨hf, p W' σ' _ xu ru lu⟩
    | bk => exact ⟨hf, p W' σ' _ xu ru lu⟩
    | ct => exact ⟨hf, p W' σ' _ xu ru lu⟩
    | rt d2 => exact fun v rv => ⟨hf, p W' σ' _ xu ru lu v (rv.monoV (ExtV.unlock hf du))⟩
    | ex c ds => exact p W' σ' H' ((Ext0.lock h du).trans x) r l
end

/-! ### for k in d -/
@[simp] def keyD : Key → D
  | .inl i => .int i
  | .inr x => .str x
@[simp] def keysD : D → Option (List D)
  | .dK kvs => some (kvs.map fun kv => keyD kv.1)
  | .dT kvs => some (kvs.map fun kv => .tup (kv.1.map keyD))
  | _ => none
@[simp] def iKey (f : CE) : CA := fun E M => (f E M).bind fun d M => ofO (keysD d) M
theorem rep_keyD {G : Gm} {W : Wd} {H : Hp} : ∀ k : Key, Rep G W H (keyD k) (kV k)
  | .inl i => .int i
  | .inr x => .str x
theorem reps_keyD {G : Gm} {W : Wd} {H : Hp} : ∀ ks : List Key, Reps G W H (ks.map keyD) (ks.map kV)
  | [] => .nil
  | k :: ks => .cons (rep_keyD k) (reps_keyD ks)
section
variable {X : Cx} {ct : List (Str × List Str)} {Wx : WX} {e e1 ei o a b tg iter elt value : Expr} {es ifs : List Expr} {f f1 f2 fi : CE} {r : CR} {it g : CA} {t t1 t2 : CT} {pos apos cpos p p' : Pos} {x y m : Str} {n k c : Nat} {F : Fn} {sts : List Stmt} {s : CS}
theorem iter_keyK {G : Gm} {W : Wd} {H : Hp} {d : Addr} {o : Obj} {kvs : List (Key × D)} {vs : List (Key × V)} (ek : vs.map (·.1) = kvs.map (·.1)) (h : H d = some (.frz o (.dK vs))) : IterOk G W H (kvs.map fun kv => keyD kv.1) (Itk d o vs) := by
  have hl : vs.length = kvs.length := by have := congrArg List.length ek; simpa using this
  intro W' H' M' x c l i hi
  have h' := x.fd _ _ _ h
  rw [List.length_map] at hi
  refine ⟨fun q hq => ?_, fun hi2 => ⟨h', by rw [hi2, List.length_map, hl]; exact Nat.le_refl _⟩⟩
  have hi3 : i < kvs.length := by
    have := (List.getElem?_eq_some_iff.mp hq).1
    rwa [List.length_map] at this
  refine ⟨⟨h', by rw [hl]; exact hi3⟩, fun y H'' hy => ?_⟩
  obtain ⟨rfl, k, v, e1, rfl⟩ := hy
  refine ⟨W', Ext.refl, c, ?_, l⟩
  have e2 : (vs.map (·.1))[i]? = some k := by rw [List.getElem?_map, e1]; rfl
  rw [ek, List.getElem?_map] at e2
  rw [List.getElem?_map] at hq
  obtain ⟨kv, h1, h2⟩ := Option.map_eq_some_iff.mp e2
  rw [h1] at hq
  have hq : keyD kv.1 = q := Option.some.inj hq
  have h2 : kv.1 = k := h2
  rw [← hq, h2]
  exact rep_keyD k
theorem iter_keyT {G : Gm} {W : Wd} {H : Hp} {d : Addr} {o : Obj} {kvs : List (List Key × D)} {vs : List (List Key × V)} (ek : vs.map (·.1) = kvs.map (·.1)) (h : H d = some (.frz o (.dT vs))) : IterOk G W H (kvs.map fun kv => .tup (kv.1.map keyD)) (Itkt d o vs) := by
  have hl : vs.length = kvs.length := by have := congrArg List.length ek; simpa using this
  intro W' H' M' x c l i hi
  have h' := x.fd _ _ _ h
  rw [List.length_map] at hi
  refine ⟨fun q hq => ?_, fun hi2 => ⟨h', by rw [hi2, List.length_map, hl]; exact Nat.le_refl _⟩⟩
  have hi3 : i < kvs.length := by
    have := (List.getElem?_eq_some_iff.mp hq).1
    rwa [List.length_map] at this
  refine ⟨⟨h', by rw [hl]; exact hi3⟩, fun y H'' hy => ?_⟩
  obtain ⟨rfl, k, v, b, e1, rfl, hb⟩ := hy
  refine ⟨W', Ext.refl, c, ?_, l⟩
  have e2 : (vs.map (·.1))[i]? = some k := by rw [List.getElem?_map, e1]; rfl
  rw [ek, List.getElem?_map] at e2
  rw [List.getElem?_map] at hq
  obtain ⟨kv, h1, h2⟩ := Option.map_eq_some_iff.mp e2
  rw [h1] at hq
  have hq : D.tup (kv.1.map keyD) = q := Option.some.inj hq
  have h2 : kv.1 = k := h2
  rw [← hq, h2]
  exact .tup hb (reps_keyD k)
/-- what the walk over a locked dict wishes -/
theorem keys_run {W0 W1 : Wd} {H0 H1 : Hp} {σ : L2.St} {E : Env} {M1 : Mem} {D : Ends} {gt : TG} {gg : CG} {is : List Nat} {i : Nat}
    (hg : ∀ W0 H0 W σ H E M d v E' (Q : L2.St → Hp → Prop), Rel (Gx X ct) W0 H0 W σ H E M → Rep (Gx X ct) W H d v → gg d E = some E' → (∀ σ', Rel (Gx X ct) W0 H0 W σ' H E' M → (∀ vs, (∀ i ∈ is, i ∈ vs) → L2.wipe σ' vs = L2.wipe σ vs) → Q σ' H) → gt v σ H Q)
    (rel : Rel (Gx X ct) W0 H0 W1 σ H1 E M1) (l : LenOk H1) {d : J.D} {ds : List J.D} (hE : E[i]? = some (.sh d)) (hk : keysD d = some ds) (hf : ∀ v, σ[i]? = some (some v) → Rep (Gx X ct) W1 H1 d v → ∃ a o u, v = .ref a ∧ H1 a = some (.frz o u) ∧ isDict u = true) (p : PostS (Gx X ct) Wx W0 H0 W1 H1 (forL gg s ds E M1) D) :
    L2.tFor (iKeys (tVar i)) gt (tS (Gx X ct) Wx s) (Dl D) σ H1 := by
  obtain ⟨v, hv, rv⟩ := rel.slt i _ hE
  obtain ⟨a, o, u, rfl, ha, hu⟩ := hf v hv rv
  refine ⟨_, hv, a, o, rfl, ?_⟩
  cases rv with
  | @dK a vs kvs z h ek r =>
    cases hk
    have : u = .dK vs := by
      rcases h with h | ⟨o2, h⟩
      · rw [h] at ha; cases ha; 
      · rw [h] at ha; cases ha; rfl
    subst this
    exact .inl ⟨vs, ha, for_run hg rel l (iter_keyK ek ha) p⟩
  | @dT a vs kvs z h ek r =>
    cases hk
    have : u = .dT vs := by
      rcases h with h | ⟨o2, h⟩
      · rw [h] at ha; cases ha
      · rw [h] at ha; cases ha; rfl
    subst this
    exact .inr ⟨vs, ha, for_run hg rel l (iter_keyT ek ha) p⟩
  | _ => cases hk
theorem ps_mayLock {st : Stmt} {t : TS} (h : PS X st t) : PS X st (fun D σ H => t D σ H ∨ tLock t D σ H) := by
  refine ⟨fun pins s σ H D I q => ?_⟩
  rcases q with q | q
  · exact h.run pins s σ H D I q
  · exact (ps_lock h).run pins s σ H D I q
theorem PS.dl {st : Stmt} {t : TS} (h : PS X st t) : PS X st (fun D σ H => t (Dl D) σ H) := ⟨fun pins s σ H D I q => thn (h.run pins s σ H (Dl D) I q) fun _ _ q => SP.dl q⟩
theorem s_forK {is : List Nat} {gt : TG} {gg : CG} (i : Nat) (hp : PassesOwn (model X.prog X.w) X.A X.env X.xe) (hc : X.calm = true) (hg : PGf X ct tg is gt gg) (hb : PSsf X ct Wx sts s) (hs : foldedSetIterable (.Name x p) X.env = fun v => pure v := by rfl) (hN : X.N[i]? = some x := by rfl) (hv : Vis X.env.scope x := by first | exact Or.inl rfl | exact Or.inr (Or.inl rfl) | exact Or.inr (Or.inr rfl)) (hd : (x == ("__debug__" : Str)) = false := by decide)
    (hcd : (x == ("__classdict__" : Str)) = false := by decide) : PSf X ct Wx (.For tg (.Name x p) sts [] pos) (sFor (iKey (cV i)) gg s) := by
  have h1 := ps_mayLock (PS.dl (ps_for (pos := pos) hp hc (pi_keys (pe_var (pos := p) hN hv hd hcd)) hg.1 hb fun v => by rw [hs]))
  refine ⟨fun pins s0 σ H D I qq => h1.run pins s0 σ H D I ?_⟩
  have l := lenOk_of I
  obtain ⟨W0, H0, W, E, M, rel, p⟩ := qq
  dsimp only [sFor, iKey, cV] at p
  cases q : E[i]? with
  | none => rw [q] at p; exact p.elim
  | some sl =>
    rw [q] at p
    cases sl with
    | un => exact p.elim
    | ow c => exact p.elim
    | sh d =>
      dsimp only [R.bind] at p
      cases hk : keysD d with
      | none => rw [hk] at p; exact p.elim
      | some ds =>
        rw [hk] at p
        have p : PostS (Gx X ct) Wx W0 H0 W H (forL gg s ds E M) D := p
        obtain ⟨v, hv, rv⟩ := rel.slt i _ q
        -- the dict's place
        have z : ∃ a u, v = .ref a ∧ W.Z a ∧ isDict u = true ∧ Mut (some u) ∧ Rd H a u := by
          cases rv with
          | @dK a vs _ z h ek r => exact ⟨a, .dK vs, rfl, z, rfl, True.intro, h⟩
          | @dT a vs _ z h ek r => exact ⟨a, .dT vs, rfl, z, rfl, True.intro, h⟩
          | _ => cases hk
        obtain ⟨a, u, rfl, za, du, mu, hr⟩ := z
        rcases hr with hr | ⟨o, hr⟩
        · refine .inr ⟨a, u, hr, mu, fun od => ?_⟩
          have rl := rel.lock (od := od) za hr du
          have ll : LenOk (upd H a (.frz od u)) := by
            refine ⟨fun b vs h => ?_, fun b vs h => ?_⟩
            · by_cases q2 : b = a
              · subst q2
                rcases h with h | ⟨o2, h⟩
                · rw [upd_same] at h; cases h
                · rw [upd_same] at h; cases h; cases du
              · refine l.1 b vs ?_
                rcases h with h | ⟨o2, h⟩
                · rw [upd_ne q2] at h; exact .inl h
                · rw [upd_ne q2] at h; exact .inr ⟨o2, h⟩
            · by_cases q2 : b = a
              · subst q2; rw [upd_same] at h; cases h
              · rw [upd_ne q2] at h; exact l.2 b vs h
          exact keys_run (Wx := Wx) hg.2 rl ll q hk (fun v2 hv2 _ => by
            rw [hv] at hv2
            cases hv2
            exact ⟨a, od, u, rfl, upd_same, du⟩) (PostS.lock rel hr du za p)
        · refine .inl (keys_run hg.2 rel l q hk (fun v2 hv2 _ => ?_) p)
          rw [hv] at hv2
          cases hv2
          exact ⟨a, o, u, rfl, hr, du⟩

/-! ### list(d.values()) -/
def valuesO (p d : Addr) : HO := .ext fun h => h.IsValuesView p d
theorem valuesO_ok {P : Program} {w : World} {H : Hp} {h : Heap} {p d : Addr} (e : h.get? p = some { cls := .type "dict_values", data := .fields #[.ref d] }) : ObjOk P w H h p (valuesO p d) :=
  ⟨⟨_, e, rfl, rfl⟩, ⟨_, e⟩, fun h1 h2 x k => let ⟨o, ho, r⟩ := x; ⟨o, k o ho, r⟩⟩
def valsV : HO → List V
  | .dK kvs => kvs.map (·.2)
  | .dT kvs => kvs.map (·.2)
  | _ => []
theorem ppget {α β : Type} {F : α → β → Prop} : ∀ {l₁ : List α} {l₂ : List β} {j : Nat} {x : β}, Paired F l₁ l₂ → l₂[j]? = some x → ∃ y, l₁[j]? = some y ∧ F y x
  | _, _, _, _, .nil, h => by simp at h
  | _, _, 0, _, .cons p _, h => by simp at h; subst h; exact ⟨_, by simp, p⟩
  | _, _, j + 1, _, .cons _ t, h => by
    obtain ⟨y, h1, h2⟩ := ppget (j := j) t (by simpa using h)
    exact ⟨y, by simpa using h1, h2⟩
/-- a dict's values, as its entries have them -/
theorem dict_vals {X : Cx} {pins : List (Addr × Obj)} {σ : L2.St} {H : Hp} {s : Shared} {a : Addr} {u : HO} (I : Inv X pins σ H s) (h : Rd H a u) (du : isDict u = true) :
    (a == sysModules) = false ∧ ∃ es ep, s.heap.DictRaw a es ep ∧ es.size = (valsV u).length ∧ es.size ≤ sizeLine ∧ ∀ (i : Nat) (hi : i < es.size), ∃ v, (valsV u)[i]? = some v ∧ RelV v es[i].val := by
  cases u with
  | dK kvs =>
    obtain ⟨z, hs, vs, kv, dd⟩ := dk_rd I.hok h
    have hl : kvs.length = vs.length := Paired.length kv
    obtain ⟨es, ep, raw, hsz, at'⟩ := dd.raw
    refine ⟨hs, es, ep, raw, by rw [hsz, ← hl]; simp [valsV], by rw [hsz, ← hl]; exact z, fun i hi => ?_⟩
    have hi1 : i < vs.length := by rw [← hsz]; exact hi
    obtain ⟨v, e1, r⟩ : ∃ p, kvs[i]? = some p ∧ RelV p.2 vs[i].2 := by
      obtain ⟨p, h1, h2⟩ := ppget kv (List.getElem?_eq_getElem hi1)
      exact ⟨p, h1, h2.2⟩
    obtain ⟨_, q⟩ := at' i hi vs[i].1 vs[i].2 (List.getElem?_eq_getElem hi1)
    refine ⟨v.2, by simp [valsV, e1], ?_⟩
    rw [q]; exact r
  | dT kvs =>
    obtain ⟨z, hs, xs, kv, dd⟩ := dt_rd I.hok h
    have hl : kvs.length = xs.length := Paired.length kv
    obtain ⟨es, ep, raw, hsz, at'⟩ := dd.raw
    refine ⟨hs, es, ep, raw, by rw [hsz, ← hl]; simp [valsV], by rw [hsz, ← hl]; exact z, fun i hi => ?_⟩
    obtain ⟨y, h1, _, h3, _⟩ := at' i hi
    obtain ⟨p, h4, h5⟩ := ppget kv h1
    refine ⟨p.2, by simp [valsV, h4], ?_⟩
    rw [h3]; exact h5.2.2
  | _ => cases du
def tVals (te : TE) : TE := fun σ H Q => te σ H fun x H1 => ∃ a u, x = .ref a ∧ Rd H1 a u ∧ isDict u = true ∧ ∀ p, H1 p = none → Q (.ref p) (upd H1 p (valuesO p a))
theorem pe_vals {te : TE} (he : PE X e te) (hbase : attributeBase e "values" X.env (eval e X.env) = eval e X.env := by rfl) (hline : (apos.endLine == cpos.line) = true := by rfl) : PE X (.Call (.Attribute e "values" apos) [] [] cpos) (tVals te) := by
  refine ⟨fun pins s σ H Q I h => ?_⟩
  refine wpAny_Call_method (T := "dict") (id := "dict.values") hbase rfl hline F.plainAttrs_dict F.slot_dict_values F.type_dict_values (thn (he.run pins s σ H _ I h) fun u s1 ⟨x, H1, I1, rx, a, ob, ex, hd, du, q⟩ => ?_)
  subst ex
  obtain rfl : u = Value.ref a := rx
  obtain ⟨hs, es, ep, raw, hsz, _, _⟩ := dict_vals I1 hd du
  have hn : ∀ b, Value.ref a = .ref b → ∃ ob, s1.heap.get? b = some ob ∧ ob.dict = none := fun b eb => by
    cases eb
    obtain ⟨o, ho, hx, _⟩ := raw
    exact ⟨o, ho, hx.2.1⟩
  refine ⟨raw.typeIs, hn, ?_⟩
  show wpAny _ _ (callWith cpos (.builtin "dict.values") [.ref a] [] []) _ X.xe s1
  have hf : H1 s1.heap.objs.size = none := I1.hok.fresh (Nat.le_refl _)
  have fin : EP X pins σ Q (.ref s1.heap.objs.size) { s1 with heap := s1.heap.push { cls := .type "dict_values", data := .fields #[.ref a] } } :=
    ⟨.ref s1.heap.objs.size, upd H1 s1.heap.objs.size (valuesO s1.heap.objs.size a), I1.laid (t' := s1.toks) (fun b u e => Heap.get?_push_of_some _ e) (Nat.le_refl _) (valuesO_ok (Heap.get?_push_size _ rfl)), rfl, q _ hf⟩
  exact method_meetsIn F.slot_dict_values F.entry_dict_values rfl (PySem.evalArgs_none ⟨rfl, raw.typeIs, F.args_dict_values_1 _, _, meets_dict_values_raw a hs, ⟨es, ep, raw⟩, fin⟩)
theorem call_listVals (hc : X.calm = true) : CallR X (.type "list") (fun xs H Q => ∃ p a u, xs = [.ref p] ∧ H p = some (valuesO p a) ∧ Rd H a u ∧ isDict u = true ∧ ∀ q, H q = none → Q (.ref q) (upd H q (.lst (valsV u)))) := by
  intro pins s σ H xs us Q I r h
  obtain ⟨p, a, u, rfl, hp, hd, du, q⟩ := h
  obtain rfl := Vals.ref1 r
  obtain ⟨hs, es, ep, raw, hsz, hle, at'⟩ := dict_vals I hd du
  have view : s.heap.IsValuesView p a := (I.hok p _ hp).1
  refine PySem.W.kdl_call (PySem.KdlSrc.rawValues (es := es) (ep := ep)) (I.ok.hd hc) ⟨view, raw⟩ hle fun h' tk acc c' hk hn hacc => ?_
  have hf : H s.heap.objs.size = none := I.hok.fresh (Nat.le_refl _)
  have hv : Vals (valsV u) acc.toList := by
    have h1 : (valsV u).length = acc.toList.length := (hsz.symm.trans hacc.1.symm).trans Array.length_toList.symm
    have at2 : ∀ i (hi : i < (valsV u).length) (hi2 : i < acc.toList.length), RelV (valsV u)[i] acc.toList[i] := fun i hi hi2 => by
      have hi3 : i < es.size := by rw [hsz]; exact hi
      obtain ⟨v, e1, e2⟩ := at' i hi3
      have e3 : acc[i]? = some acc.toList[i] := by
        rw [← Array.getElem?_toList]
        exact List.getElem?_eq_getElem hi2
      obtain ⟨_, e4⟩ := hacc.2 i _ e3
      rw [List.getElem?_eq_getElem hi] at e1
      rw [Option.some.inj e1, e4]
      exact e2
    have go : ∀ (xs : List V) (ys : List Value), xs.length = ys.length → (∀ i (hi : i < xs.length) (hi2 : i < ys.length), RelV xs[i] ys[i]) → Vals xs ys := by
      intro xs
      induction xs with
      | nil =>
        intro ys hl _
        cases ys with
        | nil => exact .nil
        | cons _ _ => cases hl
      | cons x xs ih =>
        intro ys hl ha
        cases ys with
        | nil => cases hl
        | cons y ys => exact .cons (ha 0 (by simp) (by simp)) (ih ys (by simpa using hl) fun i hi hi2 => ha (i + 1) (by simpa using hi) (by simpa using hi2))
    exact go _ _ h1 at2
  refine ⟨.ref s.heap.objs.size, upd H s.heap.objs.size (.lst (valsV u)), I.laid (t' := tk) (h' := h') (fun b o e => hk b o e) (Nat.le_refl _) ?_, rfl, q _ hf⟩
  exact ⟨by rw [← hsz]; exact hle, acc.toList, c', hv, by rw [Array.toArray_toList]; exact hn⟩
@[simp] def gVals : D → Option D
  | .dK kvs => some (.lst (kvs.map (·.2)))
  | .dT kvs => some (.lst (kvs.map (·.2)))
  | _ => none
theorem n_listVals (hc : X.calm = true) (hm : X.mg "list" = none) (he : PF X ct Wx e f) (hg : Gl X "list" := by rfl) (hbase : attributeBase e "values" X.env (eval e X.env) = eval e X.env := by rfl) (hline : (apos.endLine == cpos.line) = true := by rfl)
    (hs : starEach [.Call (.Attribute e "values" apos) [] [] cpos] X.env = (false, eval (.Call (.Attribute e "values" apos) [] [] cpos) X.env) :: starEach [] X.env := by rfl) (hv : bootBuiltins ("list" : Str) = some (.type "list") := by first | exact PySem.boot_list | decide +kernel) :
    PNf X ct Wx (.Call (.Name "list" p) [.Call (.Attribute e "values" apos) [] [] cpos] [] pos) (c1 gVals f) := by
  refine PE.fin (pe_callTy (call_listVals hc) hg hm hv (pa_cons (pe_vals he hbase hline) pa_nil hs) (by decide) (by decide) hs rfl) ?_
  rintro σ H Q l ⟨W0, H0, W, E, M, rel, p⟩
  refine ⟨W0, H0, W, E, M, rel, Post.bind p fun d M1 W1 H1 v _ x1 rel1 r1 l1 pp => ?_⟩
  clear p
  -- the dict, seen
  have z : ∃ a u ds, v = .ref a ∧ Rd H1 a u ∧ isDict u = true ∧ (∀ W' H', Ext0 W1 H1 W' H' → Reps (Gx X ct) W' H' ds (valsV u)) ∧ gVals (view M1 d) = some (.lst ds) := by
    rcases rel1.seen (.rep r1) with ⟨a, c, e1, e2, hc⟩ | ⟨e2, hr⟩
    · rw [e2] at pp ⊢
      cases c with
      | dK kvs => obtain ⟨vs, q, ek, rr⟩ := hc; exact ⟨a, .dK vs, _, e1, .inl q, rfl, fun W' H' x => rr.mono x, rfl⟩
      | dT kvs => obtain ⟨vs, q, ek, rr⟩ := hc; exact ⟨a, .dT vs, _, e1, .inl q, rfl, fun W' H' x => rr.mono x, rfl⟩
      | _ => exact pp.elim
    · rw [e2] at pp ⊢
      cases hr with
      | @dK a vs kvs zz h ek rr => exact ⟨a, .dK vs, _, rfl, h, rfl, fun W' H' x => rr.mono x, rfl⟩
      | @dT a vs kvs zz h ek rr => exact ⟨a, .dT vs, _, rfl, h, rfl, fun W' H' x => rr.mono x, rfl⟩
      | _ => exact pp.elim
  obtain ⟨a, u, ds, rfl, hr, du, rs, hv2⟩ := z
  rw [hv2] at pp
  refine ⟨a, u, rfl, hr, du, fun p hp => ⟨p, a, u, rfl, upd_same, ?_, du, fun q hq => ?_⟩⟩
  · have ne : a ≠ p := fun z => by
      subst z
      rcases hr with hr | ⟨o, hr⟩
      · rw [hp] at hr; cases hr
      · rw [hp] at hr; cases hr
    rcases hr with hr | ⟨o, hr⟩
    · exact .inl (by rw [upd_ne ne]; exact hr)
    · exact .inr ⟨o, by rw [upd_ne ne]; exact hr⟩
  · intro l2
    have xa := Ext.new (o := valuesO p a) rel1.toCRel hp
    have ra := rel1.after xa (rel1.toCRel.new hp)
    have xb := Ext.new (o := .lst (valsV u)) ra.toCRel hq
    have rb := ra.after xb (ra.toCRel.new hq)
    have xab := Ext.trans ra.toCRel xa xb
    exact pp W1 _ _ xab rb ⟨q, .lst ds, rfl, rfl, ⟨_, upd_same, rs _ _ xab.toExt0⟩, Aside.new ra hq, rel1.toCRel.was x1 (ra.toCRel.was xa hq)⟩ l2

/-! ### {k: v}, k a tuple -/
@[simp] def cDT1 (fk fv : CE) : CE := fun E M => (fk E M).bind fun k M => (fv E M).bind fun d M => match k with
  | .tup ks => match keysOf ks with
    | some ks => .ok (.dT [(ks, d)]) M
    | none => .bad
  | _ => .bad
def tDisp1T (tk tv : TE) : TE := fun σ H Q => ∀ p, H p = none → tk σ (upd H p (.dT [])) fun x H1 => tv σ H1 fun y H2 => H2 p = some (.dT []) ∧ ∃ b ks, x = .ref b ∧ H2 b = some (.tup (ks.map kV)) ∧ Q (.ref p) (upd H2 p (.dT [(ks, y)]))
theorem pe_disp1T {ek ev : Expr} {tk tv : TE} (hu : X.A.units + 1 < cLine) (hk : PE X ek tk) (hv : PE X ev tv) : PE X (.Dict [some ek] [ev] pos) (tDisp1T tk tv) := by
  refine ⟨fun pins s σ H Q I q => ?_⟩
  have hn := I.hok.fresh (Nat.le_refl s.heap.objs.size)
  have I1 := I.laid (a := s.heap.objs.size) (o := .dT []) (h' := s.heap.push { cls := .type "dict", data := .dict #[] }) (t' := s.toks) (fun _ _ q => Heap.get?_push_of_some _ q) (Nat.le_refl _) (dt_empty s.heap I.big)
  refine wpAny_Dict_any (by rfl) (by rfl) (by simp) (by show 1 ≤ 15; decide) (pairTrees_cons_walk (thn (hk.run pins _ σ _ _ I1 (q _ hn)) fun kv s2 ⟨x, H2, I2, rx, q2⟩ => thn (hv.run pins _ σ _ _ I2 q2) fun vv s3 ⟨y, H3, I3, ry, e, b, ks, ex, eb, q3⟩ => pairTrees_nil_walk ?_))
  subst ex
  obtain rfl : kv = Value.ref b := rx
  unfold storeAll
  rw [List.forIn_cons]
  obtain ⟨z, hd, xs, rel, dd⟩ := dt_of I3.hok e
  cases rel
  refine wpAny_bind (wpAny_bind (wpAny_dictSet_heap (hsz := Nat.zero_le _) (knd := tupleKind (mixKind X.prog X.w)) (Nat.lt_of_succ_lt hu) (key_of I3.hok eb) dd fun h' dd' hs => wpAny_pure ?_))
  show wpAny _ _ (forIn ([] : List (Value × Value)) PUnit.unit _) _ _ _
  rw [List.forIn_nil]
  refine wpAny_pure ?_
  obtain ⟨q, es, ep, hq, h2, h3, h4, _, h5⟩ := dd'
  refine ⟨.ref s.heap.objs.size, upd H3 s.heap.objs.size (.dT [(ks, y)]), d_write (ob := .dT [(ks, y)]) I3 (by rw [e]; exact True.intro) hs ⟨q, hq⟩ ⟨by show 1 ≤ 16777216; decide, hd, _, Paired.cons ⟨rfl, ?_, ry⟩ .nil, q, es, ep, hq, h2, h3, h4, h5⟩, rfl, q3⟩
  rw [upd_ne (ne_of eb e (fun z => nomatch z))]
  exact eb
theorem Post.bindU {G : Gm} {Wx : WX} {W0 W Wa : Wd} {H0 H Ha : Hp} {σ : L2.St} {E : Env} {M : Mem} {α β γ δ : Type} {Rp : Wd → Hp → α → β → Prop} {Rq : Wd → Hp → γ → δ → Prop} {r : R γ} {k : γ → Mem → R α} {Q : β → Hp → Prop} {Q' : δ → Hp → Prop} (x : Ext W H Wa Ha) (ra : Rel G W0 H0 Wa σ Ha E M)
    (h : Post G Wx Rp W0 H0 W H σ E (r.bind k) Q) (hk : ∀ d M1 W1 H1 v, r = .ok d M1 → Ext Wa Ha W1 H1 → Rel G W0 H0 W1 σ H1 E M1 → Rq W1 H1 d v → LenOk H1 → Post G Wx Rp W0 H0 W H σ E (k d M1) Q → Q' v H1) : Post G Wx Rq W0 H0 Wa Ha σ E r Q' := by
  cases r with
  | ok d M1 => exact fun W' H' v x r p l => hk d M1 W' H' v rfl x r p l h
  | exc c ds M1 => exact fun W' H' C o x' r p l => h W' H' C o (Ext.trans ra.toCRel x x') r p l
  | bad => exact h
theorem Rel.asideP {G : Gm} {W0 W : Wd} {H0 H : Hp} {σ : L2.St} {E : Env} {M : Mem} {z : Addr} {cl : Cell} {o' : HO} (r : Rel G W0 H0 W σ H E M) (hn : H0 z = none) (hc : CellOk G W H z cl) (a : Aside W σ E z) : Rel G W0 H0 W σ (upd H z o') E M := by
  have x := Ext0.put (o' := o') hc a.z
  refine ⟨⟨r.len, fun l cl b h1 h2 => (r.cel l cl b h1 h2).mono x fun o ho => by rw [upd_ne (fun q => a.ph (by rw [← q]; exact List.mem_of_getElem? h2))]; exact ho, r.nd, r.sep, fun b zb => ?_⟩, ⟨r.ext.toExt0.trans x, r.ext.fr, r.ext.zn, fun b o e h1 h2 => ?_⟩, fun i s hs => ?_, r.sz, r.own⟩
  · rw [upd_ne (fun q => a.z (by rw [← q]; exact zb))]; exact r.zs b zb
  · rw [upd_ne (fun q => by subst q; rw [hn] at e; cases e)]; exact r.ext.keep b o e h1 h2
  · have q := r.slt i s hs
    cases s with
    | un => exact True.intro
    | sh d => obtain ⟨w, e2, h2⟩ := q; exact ⟨w, e2, h2.mono x⟩
    | ow c =>
      obtain ⟨b, e2, h2, n1, n2, n3⟩ := q
      exact ⟨b, e2, h2.mono x fun o ho => by rw [upd_ne (fun q => by subst q; exact a.ow i c hs e2)]; exact ho, n1, n2, n3⟩
theorem n_disp1T {ek ev : Expr} {fk fv : CE} (hu : X.A.units + 1 < cLine) (hk : PF X ct Wx ek fk) (hv : PF X ct Wx ev fv) : PNf X ct Wx (.Dict [some ek] [ev] pos) (cDT1 fk fv) := by
  refine PE.fin (pe_disp1T hu hk hv) ?_
  rintro σ H Q l ⟨W0, H0, W, E, M, rel, p⟩
  intro z hz
  have xa := Ext.new (o := .dT []) rel.toCRel hz
  have ra := rel.after xa (rel.toCRel.new hz)
  have la : LenOk (upd H z (.dT [])) := l.new hz (fun _ q => nomatch q) (fun _ q => nomatch q) fun _ _ q => nomatch q
  have as0 : Aside W σ E z := Aside.new rel hz
  refine ⟨W0, H0, W, E, M, ra, Post.bindU xa ra p fun d M1 W1 H1 v _ x1 rel1 r1 l1 p1 => ?_⟩
  refine ⟨W0, H0, W1, E, M1, rel1, Post.bindU (Ext.trans ra.toCRel xa x1) rel1 p1 fun d2 M2 W2 H2 v2 _ x2 rel2 r2 l2 p2 => ?_⟩
  clear p p1
  have e0 : upd H z (.dT []) z = some (.dT []) := upd_same
  have as1 := as0.mono x1 e0
  have e1 : H1 z = some (.dT []) := x1.keep z _ e0 as0.ph as0.z
  have as2 := as1.mono x2 e1
  have e2 : H2 z = some (.dT []) := x2.keep z _ e1 as1.ph as1.z
  have r1' := r1.mono x2.toExt0
  cases r1' with
  | @tup b vs ks hb rb =>
    dsimp only at p2
    cases qk : keysOf ks with
    | none => rw [qk] at p2; exact p2.elim
    | some key =>
      rw [qk] at p2
      refine ⟨e2, b, key, rfl, by rw [← reps_keys rb qk]; exact hb, fun l3 => ?_⟩
      have hc0 : CellOk (Gx X ct) W2 H2 z (.dT []) := ⟨[], e2, rfl, .nil⟩
      have xp := Ext0.put (o' := .dT [(key, v2)]) hc0 as2.z
      have z0 : H0 z = none := rel.toCRel.was rel.ext hz
      have rp := rel2.asideP (o' := .dT [(key, v2)]) z0 hc0 as2
      have xt : Ext W H W2 (upd H2 z (.dT [(key, v2)])) := by
        have xx := Ext.trans ra.toCRel xa (Ext.trans rel1.toCRel x1 x2)
        exact ⟨xx.toExt0.trans xp, xx.fr, xx.zn, fun b o h n1 n2 => by
          rw [upd_ne (fun q => by subst q; rw [hz] at h; cases h)]
          exact xx.keep b o h n1 n2⟩
      exact p2 _ _ _ xt rp ⟨z, .dT [(key, d2)], rfl, rfl, ⟨_, upd_same, rfl, .one (r2.mono xp)⟩, as2, hz⟩ l3
  | _ => exact p2.elim
end
end J
namespace J
open PySem PySem.Spec L2 PyProof.Rows

/-! ### names of the module -/
section
variable {X : Cx} {ct : List (Str × List Str)} {Wx : WX} {pos : Pos} {x : Str}
/-- a number of the module -/
structure NumX (mg : Str → Option Value) (x : Str) (i : Int) : Prop where
  ex : ∃ t, mg x = some (.int i t)
theorem pf_gl {i : Int} (h : NumX X.mg x i) (hg : Gl X x := by rfl) (hd : (x == ("__debug__" : Str)) = false := by decide) : PF X ct Wx (.Name x pos) (cC (.int i)) := by
  obtain ⟨t, h⟩ := h.ex
  exact pf_c (pe_glob (v := .int i) hg h ⟨t, rfl⟩ hd) fun W H => .int i
theorem pf_fn (h : ∃ a, X.mg x = some (.ref a)) (hg : Gl X x := by rfl) (hd : (x == ("__debug__" : Str)) = false := by decide) : PF X ct Wx (.Name x pos) (cC (.fn x)) := by
  obtain ⟨a, h⟩ := h
  exact pf_c (pe_glob (v := .ref a) hg h rfl hd) fun W H => .fn h
end

/-! ### the text's defs -/
section
variable {P : Program} {w : World} {K : PySem.W.Frag} {mg : Str → Option Value} {base : Heap} {ct : List (Str × List Str)} {k j : Nat} {x : Str} {n np : Nat} {F : Fn} {N ps : List Str} {st : Stmt} {s : CS} {c : Nat} {qual : Str}
structure FunX (K : PySem.W.Frag) (mg : Str → Option Value) (x : Str) (st : Stmt) (ps : List Str) : Prop where
  ex : ∃ f fd, mg x = some (.ref f) ∧ Fun K x x st f fd ∧ ∀ us : List Value, us.length = ps.length → bindArgs fd ⟨us, []⟩ = pure (ps.zip us)
structure MetX (K : PySem.W.Frag) (mg : Str → Option Value) (ct : List (Str × List Str)) (c : Nat) (x qual : Str) (st : Stmt) (ps : List Str) : Prop where
  ex : ∃ nm ns C f fd, ct[c]? = some (nm, ns) ∧ mg nm = some (.ref C) ∧ Cls K C ∧ x ∉ ns ∧ Meth K C x f ∧ Fun K x qual st f fd ∧ Binds K fd ps []
structure IniX (K : PySem.W.Frag) (mg : Str → Option Value) (ct : List (Str × List Str)) (c : Nat) (nm qual : Str) (st : Stmt) (ps : List Str) : Prop where
  ex : ∃ ns C f fd, ct[c]? = some (nm, ns) ∧ mg nm = some (.ref C) ∧ Mk K C f ∧ Fun K "__init__" qual st f fd ∧ Binds K fd ps []
abbrev DerF (P : Program) (w : World) (K : PySem.W.Frag) (mg : Str → Option Value) (base : Heap) (ct : List (Str × List Str)) (k : Nat) (qual : Str) (st : Stmt) (N : List Str) (s : CS) : Prop :=
  ∀ (f : Addr) (cdv : Value) (A : Around) (outer : List PySem.Env) (s0 : Shared) (H : Hp) (E : XK), Room k (A.deeper (envOfC qual (defScope st) s0.heap.objs.size f cdv)) →
      PSsf (cxOf (L2.CX P w) P w K mg base N qual (defScope st) f cdv A outer s0 H E) ct (fun cls d _ H => E cls d H) (defBody st) s
theorem def_ok (h : FunX K mg x st ps) (S : FnScope N ps (defScope st)) (hn : N.length = n) (hp : ps.length = np) (hle : np ≤ n) (H : DerF P w K mg base ct k x st N s) : DefOk P w K mg base ct (k + 1) x np (J.body n np s) := by
  obtain ⟨f, fd, h1, h2, h3⟩ := h.ex
  exact ⟨f, fd, ps, h1, h2.kp, .all h3, ok_body h2 S hn hp hle fun cdv A outer s0 Hh E hr => H f cdv A outer s0 Hh E hr⟩
theorem met_ok (h : MetX K mg ct c x qual st ps) (S : FnScope N ps (defScope st)) (hn : N.length = n) (hp : ps.length = np) (hle : np ≤ n) (H : DerF P w K mg base ct k qual st N s) : MetOk P w K mg base ct (k + 1) c x np (J.body n np s) := by
  obtain ⟨nm, ns, C, f, fd, h1, h2, h3, h4, h5, h6, h7⟩ := h.ex
  exact ⟨nm, ns, C, f, fd, ps, h1, h2, h3, h4, h5, h7, ok_body h6 S hn hp hle fun cdv A outer s0 Hh E hr => H f cdv A outer s0 Hh E hr⟩
theorem ini_ok {nm : Str} (h : IniX K mg ct c nm qual st ps) (S : FnScope N ps (defScope st)) (hn : N.length = n) (hp : ps.length = np) (hle : np ≤ n) (H : DerF P w K mg base ct k qual st N s) : IniOk P w K mg base ct (k + 1) c nm np (J.body n np s) := by
  obtain ⟨ns, C, f, fd, h1, h2, h5, h6, h7⟩ := h.ex
  exact ⟨ns, C, f, fd, ps, h1, h2, h5, h7, ok_body h6 S hn hp hle fun cdv A outer s0 Hh E hr => H f cdv A outer s0 Hh E hr⟩
/-- nothing is promised -/
theorem fn_no {f : Addr} {fd : FuncData} {G : Gm} {CX : CXT} : FnOk P w K mg base CX k f fd ps (spF G n noF) :=
  ⟨fun vs H Q E h => by obtain ⟨W, M, ds, _, _, _, z⟩ := h; exact z.elim, fun A outer s H args us vs Q E _ _ _ _ h => by obtain ⟨W, M, ds, _, _, _, z⟩ := h; exact z.elim⟩
theorem def_no (h : FunX K mg x st ps) : DefOk P w K mg base ct k x np noF := by
  obtain ⟨f, fd, h1, h2, h3⟩ := h.ex
  exact ⟨f, fd, ps, h1, h2.kp, .all h3, fn_no⟩
theorem met_no (h : MetX K mg ct c x qual st ps) : MetOk P w K mg base ct k c x np noF := by
  obtain ⟨nm, ns, C, f, fd, h1, h2, h3, h4, h5, h6, h7⟩ := h.ex
  exact ⟨nm, ns, C, f, fd, ps, h1, h2, h3, h4, h5, h7, fn_no⟩
theorem DefOk.scp (h : DefOk P w K mg base ct k x n F) : DefOk P w K mg base ct k x n (J.scp F) := by
  obtain ⟨f, fd, ps, h1, h2, h3, h4⟩ := h.ex
  exact ⟨f, fd, ps, h1, h2, h3, h4.imp fun _ _ _ _ q => spF_scp q⟩
theorem MetOk.scp (h : MetOk P w K mg base ct k c x n F) : MetOk P w K mg base ct k c x n (J.scp F) := by
  obtain ⟨nm, ns, C, f, fd, ps, h1, h2, h3, h4, h5, h6, h7⟩ := h.ex
  exact ⟨nm, ns, C, f, fd, ps, h1, h2, h3, h4, h5, h6, h7.imp fun _ _ _ _ q => spF_scp q⟩

/-! ### from the head's facts -/
theorem funX_mk {h : Heap} {f : Addr} {oc : Value} {od an : Option Addr} {osl : Array (Option Value)} {kV doc pm cdv ct : Value} (X : K.In h) (G : h.Ns mainGlobals mg) (a : PySem.W.nsIn K mainGlobals x = some (some (.ref f)))
    (l : K.lookup f = some ⟨oc, od, .func (PySem.W.fnOf x x (defArgs st) (defBody st) (defScope st) .none kV doc pm an cdv ct), osl⟩) (cc : PySem.W.codeIn K cdv x = true) (k : PySem.W.keepIn K (.ref f) = true)
    (hb : ∀ (kV doc pm : Value) (an : Option Addr) (cdv ct : Value) (us : List Value), us.length = ps.length → bindArgs (PySem.W.fnOf x x (defArgs st) (defBody st) (defScope st) .none kV doc pm an cdv ct) ⟨us, []⟩ = pure (ps.zip us)) : FunX K mg x st ps :=
  ⟨f, _, PySem.W.mg_of X G a, fun_mk l cc k, hb kV doc pm an cdv ct⟩
theorem metX_mk {h : Heap} {f C : Addr} {nm : Str} {ns : List Str} {oc : Value} {od an : Option Addr} {osl : Array (Option Value)} {kV doc pm cdv ctt : Value} (X : K.In h) (G : h.Ns mainGlobals mg) (hc : ct[c]? = some (nm, ns)) (aC : PySem.W.nsIn K mainGlobals nm = some (some (.ref C))) (cl : Cls K C) (hx : x ∉ ns)
    (a : PySem.W.findIn K (.ref C) x = some (some (.ref f))) (i : PySem.W.isFn K (.ref f) = true) (l : K.lookup f = some ⟨oc, od, .func (PySem.W.fnOf x qual (defArgs st) (defBody st) (defScope st) .none kV doc pm an cdv ctt), osl⟩) (cc : PySem.W.codeIn K cdv qual = true) (k : PySem.W.keepIn K (.ref f) = true)
    (hb : ∀ (kV doc pm : Value) (an : Option Addr) (cdv ct : Value) (us : List Value), us.length = ps.length → bindArgs (PySem.W.fnOf x qual (defArgs st) (defBody st) (defScope st) .none kV doc pm an cdv ct) ⟨us, []⟩ = pure (ps.zip us)) : MetX K mg ct c x qual st ps :=
  ⟨nm, ns, C, f, _, hc, PySem.W.mg_of X G aC, cl, hx, ⟨a, i, k⟩, fun_mk l cc k, (fun_mk l cc k).binds hb⟩
theorem iniX_mk {h : Heap} {f C : Addr} {nm : Str} {ns : List Str} {oc : Value} {od an : Option Addr} {osl : Array (Option Value)} {kV doc pm cdv ctt : Value} (X : K.In h) (G : h.Ns mainGlobals mg) (hc : ct[c]? = some (nm, ns)) (aC : PySem.W.nsIn K mainGlobals nm = some (some (.ref C))) (mk : PySem.W.makesIn K C = true) (kc : PySem.W.keepIn K (.ref C) = true)
    (a : PySem.W.findIn K (.ref C) "__init__" = some (some (.ref f))) (i : PySem.W.isFn K (.ref f) = true) (l : K.lookup f = some ⟨oc, od, .func (PySem.W.fnOf "__init__" qual (defArgs st) (defBody st) (defScope st) .none kV doc pm an cdv ctt), osl⟩) (cc : PySem.W.codeIn K cdv qual = true) (k : PySem.W.keepIn K (.ref f) = true)
    (hb : ∀ (kV doc pm : Value) (an : Option Addr) (cdv ct : Value) (us : List Value), us.length = ps.length → bindArgs (PySem.W.fnOf "__init__" qual (defArgs st) (defBody st) (defScope st) .none kV doc pm an cdv ct) ⟨us, []⟩ = pure (ps.zip us)) : IniX K mg ct c nm qual st ps :=
  ⟨ns, C, f, _, hc, PySem.W.mg_of X G aC, ⟨mk, a, i, kc⟩, fun_mk l cc k, (fun_mk l cc k).binds hb⟩
def noB : Option (Option Value) → Bool
  | some none => true
  | _ => false
theorem noB_eq : ∀ {o : Option (Option Value)}, noB o = true → o = some none
  | some none, _ => rfl
theorem clsX_mk {h : Heap} {C : Addr} {nm : Str} {ns : List Str} (X : K.In h) (G : h.Ns mainGlobals mg) (hc : ct[c]? = some (nm, ns)) (aC : PySem.W.nsIn K mainGlobals nm = some (some (.ref C))) (cl : Cls K C) (nd : ns.Nodup) (hl : ns.length < 1000) (no : ∀ f ∈ ns, PySem.W.findIn K (.ref C) f = some none) : ClsX K mg ct c :=
  ⟨nm, ns, C, hc, PySem.W.mg_of X G aC, cl, nd, hl, no⟩
theorem no_nil {K : PySem.W.Frag} {C : Addr} : ∀ f ∈ ([] : List Str), PySem.W.findIn K (.ref C) f = some none := fun _ h => nomatch h
theorem no_cons {K : PySem.W.Frag} {C : Addr} {g : Str} {ns : List Str} (h : PySem.W.findIn K (.ref C) g = some none) (t : ∀ f ∈ ns, PySem.W.findIn K (.ref C) f = some none) : ∀ f ∈ g :: ns, PySem.W.findIn K (.ref C) f = some none := fun f hf => by
  rcases List.mem_cons.mp hf with e | e
  · rw [e]; exact h
  · exact t f e
theorem num_mk {h : Heap} {i : Int} {t : Tok} (X : K.In h) (G : h.Ns mainGlobals mg) (a : PySem.W.nsIn K mainGlobals x = some (some (.int i t))) : NumX mg x i := ⟨t, PySem.W.mg_of X G a⟩
theorem num_loose {h : Heap} {i : Int} {lv : List (Str × PySem.W.WData)} (V : PySem.W.LooseAre lv mg h) (hm : (x, PySem.W.WData.int i) ∈ lv) : NumX mg x i := by
  obtain ⟨v, h1, h2⟩ := V.val _ hm
  cases h2 with
  | int i t => exact ⟨t, h1⟩
end

/-- the law's def for every base -/
theorem law_fn {P : Program} {w : World} {K : PySem.W.Frag} {mg : Str → Option Value} {ct : List (Str × List Str)} {k n : Nat} {x y : Str} {N : List Str} {s : CS} {st : Stmt} (h : FunX K mg x st [y]) (S : FnScope N [y] (defScope st)) (hn : N.length = n) (hle : 1 ≤ n) (H : ∀ base, DerF P w K mg base ct k x st N s) :
    ∃ (f : Addr) (fd : FuncData), mg x = some (.ref f) ∧ (∀ (s : Shared) (u : Value), BindsTo s fd ⟨[u], []⟩ [(y, u)]) ∧ ∀ base : Heap, K.In base → base.Ns mainGlobals mg → FnOk P w K mg base (L2.CX P w) (k + 1) f fd [y] (spF ⟨K, mg, ct⟩ 1 (J.body n 1 s)) := by
  obtain ⟨f, fd, h1, h2, h3⟩ := h.ex
  exact ⟨f, fd, h1, fun s u => .of_eq (h3 [u] rfl), fun base _ _ => ok_body h2 S hn rfl hle fun cdv A outer s0 Hh E hr => H base f cdv A outer s0 Hh E hr⟩
/-! ### the law -/
theorem walk {l : PySem.W.OpenLaw} {n k : Nat} {q : Program} {loose : List Str} {XP : (Str → Option Value) → Heap → Prop} {YP : World → Heap → Prop} {d : DefRec} {K : Params → PySem.W.Frag} {x : Str} {ct : List (Str × List Str)} {F : Fn}
    (hn : l.most = some n) (hn2 : n ≤ sizeLine) (hdf : d.params.defaults = []) (hr : Room k callerA)
    (hY : ∀ (w : World) (h : Heap), YP w h → (K w.params).In h)
    (hF : ∀ (w : World) (mg : Str → Option Value) (h : Heap), (K w.params).In h → h.Ns mainGlobals mg → XP mg h →
      ∃ (f : Addr) (fd : FuncData), mg d.name = some (.ref f) ∧ (∀ (s : Shared) (u : Value), BindsTo s fd ⟨[u], []⟩ [(x, u)]) ∧
        ∀ base : Heap, (K w.params).In base → base.Ns mainGlobals mg → FnOk l.prog w (K w.params) mg base (L2.CX l.prog w) k f fd [x] (spF ⟨K w.params, mg, ct⟩ 1 F))
    (law : ∀ ns : List Int, ns.length ≤ n → ∃ M, F [.scr (ns.map .int)] [] = .ok (.bl true) M) :
    PySem.W.WalkO q loose XP YP l.row.toRowW d [] (fun f vs => PySem.call f vs) := by
  refine Att.attach_call hn hdf fun w s₀ s₁ mg mb fa o pm cd doc a vs ns G Y ho hd hcd hmg hobj hints hlen hg => ?_
  have KX := hY w _ Y
  obtain ⟨f, fd, hmf, hb, hFn⟩ := hF w mg _ KX G.T.g G.X
  rw [hmg] at hmf
  cases hmf
  refine law_call KX G.T.g G.T.b G.T.builtins G.T.nolimit hg hobj hints (Nat.le_trans hlen hn2) hr hFn hb (fun H hO hS => ?_) fun H e s' h => ?_
  · obtain ⟨M, hM⟩ := law ns hlen
    refine ⟨⟨[], fun _ => False⟩, [], [.scr (ns.map .int)], ⟨rfl, fun l c a h => by simp at h, List.nodup_nil, fun a h => by simp at h, fun a h => h.elim⟩, .cons (.scr (vs := ns.map V.int) ?_ ?_) .nil, rfl, ?_⟩
    · rcases hS with (hS | ⟨o2, hS⟩) | hS
      · exfalso
        rcases hO a with q | ⟨o2, xs, q⟩
        · rw [q] at hS; cases hS
        · rw [q] at hS; cases hS
      · exact .inl ⟨o2, hS⟩
      · exact .inr hS
    · have : ∀ ns : List Int, Reps (⟨K w.params, mg, ct⟩ : Gm) ⟨[], fun _ => False⟩ H (ns.map D.int) (ns.map V.int) := by
        intro ns
        induction ns with
        | nil => exact .nil
        | cons n ns ih => exact .cons (.int n) ih
      exact this ns
    · rw [hM]
      intro W' H' v _ _ r _
      cases r
      rfl
  · obtain ⟨_, _, _, _, _, _, _, _, _, _, _, _, z⟩ := h
    exact z

/-! ### tables of defs -/
section
variable {P : Program} {w : World} {K : PySem.W.Frag} {mg : Str → Option Value} {base : Heap} {ct : List (Str × List Str)} {k : Nat} {n : Nat}
theorem tab_nil : ∀ x F, tabL [] x = some F → DefOk P w K mg base ct k x n F := fun _ _ h => nomatch h
theorem tab_cons {y : Str} {F : Fn} {r : List (Str × Fn)} (h : DefOk P w K mg base ct k y n F) (t : ∀ x F, tabL r x = some F → DefOk P w K mg base ct k x n F) : ∀ x F', tabL ((y, F) :: r) x = some F' → DefOk P w K mg base ct k x n F' := fun x F' q => by
  unfold tabL at q
  by_cases e : x = y
  · rw [if_pos e] at q; cases q; subst e; exact h
  · rw [if_neg e] at q; exact t x F' q
end
theorem bb_len : bootBuiltins "len" = some (.builtin "len") := by first | exact PySem.boot_len | exact PyProof.Rows.boot_len | decide +kernel
theorem bb_sum : bootBuiltins "sum" = some (.builtin "sum") := by first | exact PySem.boot_sum | exact PyProof.Rows.boot_sum | decide +kernel
theorem bb_min : bootBuiltins "min" = some (.builtin "min") := by first | exact PySem.boot_min | exact PyProof.Rows.boot_min | decide +kernel
theorem bb_max : bootBuiltins "max" = some (.builtin "max") := by first | exact PySem.boot_max | exact PyProof.Rows.boot_max | decide +kernel
theorem bb_all : bootBuiltins "all" = some (.builtin "all") := by first | exact PySem.boot_all | exact PyProof.Rows.boot_all | decide +kernel
theorem bb_any : bootBuiltins "any" = some (.builtin "any") := by first | exact PySem.boot_any | exact PyProof.Rows.boot_any | decide +kernel
theorem bb_abs : bootBuiltins "abs" = some (.builtin "abs") := by first | exact PySem.boot_abs | exact PyProof.Rows.boot_abs | decide +kernel
theorem bb_isinstance : bootBuiltins "isinstance" = some (.builtin "isinstance") := by first | exact PySem.boot_isinstance | exact PyProof.Rows.boot_isinstance | decide +kernel
theorem bb_sorted : bootBuiltins "sorted" = some (.builtin "sorted") := by first | exact PySem.boot_sorted | exact PyProof.Rows.boot_sorted | decide +kernel
theorem bb_int : bootBuiltins "int" = some (.type "int") := by first | exact PySem.boot_int | exact PyProof.Rows.boot_int | decide +kernel
theorem bb_bool : bootBuiltins "bool" = some (.type "bool") := by first | exact PySem.boot_bool | exact PyProof.Rows.boot_bool | decide +kernel
theorem bb_str : bootBuiltins "str" = some (.type "str") := by first | exact PySem.boot_str | exact PyProof.Rows.boot_str | decide +kernel
theorem bb_list : bootBuiltins "list" = some (.type "list") := by first | exact PySem.boot_list | exact PyProof.Rows.boot_list | decide +kernel
theorem bb_tuple : bootBuiltins "tuple" = some (.type "tuple") := by first | exact PySem.boot_tuple | exact PyProof.Rows.boot_tuple | decide +kernel
theorem bb_dict : bootBuiltins "dict" = some (.type "dict") := by first | exact PySem.boot_dict | exact PyProof.Rows.boot_dict | decide +kernel
theorem bb_set : bootBuiltins "set" = some (.type "set") := by first | exact PySem.boot_set | exact PyProof.Rows.boot_set | decide +kernel
theorem bb_enumerate : bootBuiltins "enumerate" = some (.type "enumerate") := by first | exact PySem.boot_enumerate | exact PyProof.Rows.boot_enumerate | decide +kernel
theorem bb_zip : bootBuiltins "zip" = some (.type "zip") := by first | exact PySem.boot_zip | exact PyProof.Rows.boot_zip | decide +kernel
theorem bb_range : bootBuiltins "range" = some (.type "range") := by first | exact PySem.boot_range | exact PyProof.Rows.boot_range | decide +kernel
end J
namespace J
open PySem PySem.Spec L2 PyProof.Rows

/-! ### zip of a list or tuple with a list or tuple -/
def SrcIs (t : Bool) (h : Heap) (l : Addr) (xs : Array Value) : Prop := if t then h.IsTuple l xs else h.IsList l xs
def SitIs (t : Bool) (h : Heap) (it l : Addr) (k : Nat) : Prop := if t then h.IsTupleIter it l k else h.IsListIter it l k
theorem SrcIs.up {t h h' l xs} (x : SrcIs t h l xs) (e : ∀ o, h.get? l = some o → h'.get? l = some o) : SrcIs t h' l xs := by
  cases t with
  | true => exact Heap.IsTuple.at (h := h) x e
  | false => exact Heap.IsList.at (h := h) x e
theorem SitIs.up {t h h' it l k} (x : SitIs t h it l k) (e : ∀ o, h.get? it = some o → h'.get? it = some o) : SitIs t h' it l k := by
  cases t with
  | true => exact Heap.IsTupleIter.at (h := h) x e
  | false => exact Heap.IsListIter.at (h := h) x e
theorem SrcIs.lt {t h l xs} (x : SrcIs t h l xs) : l < h.objs.size := by
  cases t with
  | true => obtain ⟨o, q, _⟩ := (show h.IsTuple l xs from x); exact Heap.lt_size q
  | false => obtain ⟨o, q, _⟩ := (show h.IsList l xs from x); exact Heap.lt_size q
theorem SitIs.obj {t h it l k} (x : SitIs t h it l k) : ∃ o, h.get? it = some o ∧ o.data = .fields #[.ref l, .int k 0] := by
  cases t with
  | true => obtain ⟨o, q, _, d⟩ := (show h.IsTupleIter it l k from x); exact ⟨o, q, d⟩
  | false => obtain ⟨o, q, _, d⟩ := (show h.IsListIter it l k from x); exact ⟨o, q, d⟩
section
variable {prog : Program} {w : World} {A : Around} {E : Value → Shared → Prop} {s : Shared}
theorem nextIt {t : Bool} {it l : Addr} {i : Nat} {xs : Array Value} {x : Value} {Q : Value → Shared → Prop} (a1 : SitIs t s.heap it l i) (a2 : SrcIs t s.heap l xs) (a3 : xs[i]? = some x)
    (q : ∀ h', SitIs t h' it l (i + 1) → Heap.SameBut it s.heap h' → Q x { s with heap := h' }) : wpAny (model prog w) A (Builtin.SmallTypes.nextOf (.ref it)) Q E s := by
  cases t with
  | true => exact RZ.nextOf_tuple_item a1 a2 a3 q
  | false => exact wpAny_nextOf_list_item a1 a2 a3 q
theorem nextNo {t : Bool} {it l : Addr} {i : Nat} {xs : Array Value} {Q : Value → Shared → Prop} (hh : A.handled = none) (a1 : SitIs t s.heap it l i) (a2 : SrcIs t s.heap l xs) (a3 : xs[i]? = none)
    (q : ∀ h' e, Heap.ExtBut it s.heap h' → (∃ o, h'.get? e = some o ∧ o.cls = .type "StopIteration") → E (.ref e) { s with heap := h' }) : wpAny (model prog w) A (Builtin.SmallTypes.nextOf (.ref it)) Q E s := by
  cases t with
  | true => exact RZ.nextOf_tuple_end hh a1 a2 a3 q
  | false => exact wpAny_nextOf_list_end hh a1 a2 a3 q

/-- the four places that a zip's step may change -/
def But4 (z TO i1 i2 : Addr) (h h' : Heap) : Prop := ∀ c o, c ≠ z → c ≠ TO → c ≠ i1 → c ≠ i2 → h.get? c = some o → h'.get? c = some o

theorem zip_step {t1 t2 : Bool} {z TI TO i1 i2 l1 l2 : Addr} {k1 k2 : Nat} {xs ys : Array Value} {a b : Value} {Q : Fin → Shared → Prop} (hh : A.handled = none) (D : ZipApart z TI TO i1 i2 l1 l2)
    (qz : IsZip s.heap z TI TO .none) (pI : IsPair s.heap TI (.ref i1) (.ref i2)) (pO : IsPair s.heap TO a b)
    (m1 : SitIs t1 s.heap i1 l1 k1) (m2 : SitIs t2 s.heap i2 l2 k2) (n1 : SrcIs t1 s.heap l1 xs) (n2 : SrcIs t2 s.heap l2 ys)
    (go : ∀ x y, xs[k1]? = some x → ys[k2]? = some y → ∀ h', IsZip h' z TI TO (rawInt s.heap.objs.size) → IsPair h' TO x y → SitIs t1 h' i1 l1 (k1 + 1) → SitIs t2 h' i2 l2 (k2 + 1) → IsPair h' s.heap.objs.size x y →
      h'.objs.size = s.heap.objs.size + 1 → But4 z TO i1 i2 s.heap h' → Q (.done (.ret (.ref s.heap.objs.size))) { s with heap := h' })
    (no : (xs[k1]? = none ∨ ys[k2]? = none) → ∀ h' e, But4 z TO i1 i2 s.heap h' → (∃ o, h'.get? e = some o ∧ o.cls = .type "StopIteration") → E (.ref e) { s with heap := h' }) :
    wpAny (model prog w) A (Builtin.«zip.__next__» ⟨[.ref z], []⟩) Q E s := by
  show wpAny (model prog w) A (field (.ref z) 2 >>= _) Q E s
  refine wpAny_bind (wpAny_field qz rfl (x := .bool false) rfl ?_)
  show wpAny (model prog w) A (field (.ref z) 3 >>= _) Q E s
  refine wpAny_bind (wpAny_field qz rfl (x := .ref TI) rfl ?_)
  refine wpAny_bind (wpAny_seqItems pI rfl ?_)
  show wpAny (model prog w) A (Builtin.SmallTypes.ownedTupleIsFree (.ref z) >>= _) Q E s
  refine wpAny_bind ?_; unfold Builtin.SmallTypes.ownedTupleIsFree
  refine wpAny_bind (wpAny_field qz rfl (x := .none) rfl (wpAny_pure ?_))
  simp only [if_true]
  refine wpAny_bind (wpAny_rule ?_)
  refine wpAny_bind (wpAny_field qz rfl (x := .ref TO) rfl ?_)
  refine wpAny_bind (wpAny_setField_rec qz (by simp) fun g1 z1 b1 => ?_)
  have z1 : IsZip g1 z TI TO .ellipsis := z1
  refine wpAny_bind ?_
  simp only [List.forIn_cons, List.forIn_nil, List.zipIdx_cons, List.zipIdx_nil]
  refine wpAny_bind (wpAny_bind (wpAny_onRaise ?_))
  show wpAny (model prog w) _ (Builtin.SmallTypes.nextOf (.ref i1) >>= _) _ _ _
  have m1a : SitIs t1 g1 i1 l1 k1 := m1.up fun o e => b1.extBut _ _ D.i1z e
  have n1a : SrcIs t1 g1 l1 xs := n1.up fun o e => b1.extBut _ _ D.l1z e
  cases hx : xs[k1]? with
  | none =>
    refine wpAny_bind (nextNo hh m1a n1a hx fun g2 e b2 he => ?_)
    obtain ⟨oe, he, ce⟩ := he
    have z2 : IsZip g2 z TI TO .ellipsis := b2 _ _ D.i1z.symm z1
    have ez : e ≠ z := fun q => by subst q; rw [z2] at he; cases he; simp at ce
    exact wpAny_setField_rec z2 (by simp) fun g3 _ b3 => no (.inl hx) g3 e (fun c o c1 _ c3 _ q => b3.extBut _ _ c1 (b2 _ _ c3 (b1.extBut _ _ c1 q))) ⟨oe, b3.extBut _ _ ez he, ce⟩
  | some x =>
    refine wpAny_bind (nextIt m1a n1a hx fun g2 m1b b2 => wpAny_pure ?_)
    have pO2 : IsPair g2 TO a b := b2.extBut _ _ D.TOi1 (b1.extBut _ _ D.TOz pO)
    refine wpAny_bind (wpAny_seqItems pO2 rfl ?_)
    refine wpAny_bind (wpAny_updateSeq_pair pO2 fun g3 pO3 b3 => ?_)
    have pO3 : IsPair g3 TO x b := pO3
    refine wpAny_bind (wpAny_letGo (wpAny_pure ?_))
    refine wpAny_bind (wpAny_bind (wpAny_onRaise ?_))
    show wpAny (model prog w) _ (Builtin.SmallTypes.nextOf (.ref i2) >>= _) _ _ _
    have up3 : ∀ {c o}, c ≠ z → c ≠ i1 → c ≠ TO → s.heap.get? c = some o → g3.get? c = some o := fun c1 c2 c3 q => b3.extBut _ _ c3 (b2.extBut _ _ c2 (b1.extBut _ _ c1 q))
    have m2a : SitIs t2 g3 i2 l2 k2 := m2.up fun o e => up3 D.i2z D.i12.symm D.TOi2.symm e
    have n2a : SrcIs t2 g3 l2 ys := n2.up fun o e => up3 D.l2z D.l2i1 D.l2TO e
    have z3 : IsZip g3 z TI TO .ellipsis := b3.extBut _ _ D.TOz.symm (b2.extBut _ _ D.i1z.symm z1)
    cases hy : ys[k2]? with
    | none =>
      refine wpAny_bind (nextNo hh m2a n2a hy fun g4 e b4 he => ?_)
      obtain ⟨oe, he, ce⟩ := he
      have z4 : IsZip g4 z TI TO .ellipsis := b4 _ _ D.i2z.symm z3
      have ez : e ≠ z := fun q => by subst q; rw [z4] at he; cases he; simp at ce
      exact wpAny_setField_rec z4 (by simp) fun g5 _ b5 => no (.inr hy) g5 e (fun c o c1 c2 c3 c4 q => b5.extBut _ _ c1 (b4 _ _ c4 (up3 c1 c3 c2 q))) ⟨oe, b5.extBut _ _ ez he, ce⟩
    | some y =>
      refine wpAny_bind (nextIt m2a n2a hy fun g4 m2b b4 => wpAny_pure ?_)
      have pO4 : IsPair g4 TO x b := b4.extBut _ _ D.TOi2 pO3
      refine wpAny_bind (wpAny_seqItems pO4 rfl ?_)
      refine wpAny_bind (wpAny_updateSeq_pair pO4 fun g5 pO5 b5 => ?_)
      have pO5 : IsPair g5 TO x y := pO5
      refine wpAny_bind (wpAny_letGo (wpAny_pure (wpAny_pure ?_)))
      refine wpAny_bind (wpAny_seqItems pO5 rfl ?_)
      refine wpAny_bind (wpAny_newTuple ?_)
      have sz : g5.objs.size = s.heap.objs.size := by rw [b5.1, b4.1, b3.1, b2.1, b1.1]
      have z5 : IsZip g5 z TI TO .ellipsis := b5.extBut _ _ D.TOz.symm (b4.extBut _ _ D.i2z.symm z3)
      have up5 : But4 z TO i1 i2 s.heap g5 := fun c o c1 c2 c3 c4 q => b5.extBut _ _ c2 (b4.extBut _ _ c4 (up3 c1 c3 c2 q))
      have m1c : SitIs t1 g5 i1 l1 (k1 + 1) := m1b.up fun o e => b5.extBut _ _ D.TOi1.symm (b4.extBut _ _ D.i12 (b3.extBut _ _ D.TOi1.symm e))
      have m2c : SitIs t2 g5 i2 l2 (k2 + 1) := m2b.up fun o e => b5.extBut _ _ D.TOi2.symm e
      have lz : z < g5.objs.size := Heap.lt_size z5
      show wpAny (model prog w) _ (Builtin.SmallTypes.ownedTupleHandOut (.ref z) (.ref g5.objs.size) >>= _) _ _ _
      refine wpAny_bind ?_; unfold Builtin.SmallTypes.ownedTupleHandOut
      have z6 : IsZip (g5.push { cls := .type "tuple", data := .seq #[x, y] }) z TI TO .ellipsis := Heap.get?_push_of_some _ z5
      refine wpAny_bind (wpAny_setField_rec z6 (by simp) fun g7 z7 b7 => ?_)
      have z7 : IsZip g7 z TI TO (rawInt g5.objs.size) := z7
      refine wpAny_setField_rec z7 (by simp) fun g8 z8 b8 => ?_
      have z8 : IsZip g8 z TI TO (rawInt g5.objs.size) := z8
      have up : ∀ c o, c ≠ z → g5.get? c = some o → g8.get? c = some o := fun c o c1 e => b8.extBut _ _ c1 (b7.extBut _ _ c1 (Heap.get?_push_of_some _ e))
      have T8 : IsPair g8 g5.objs.size x y := b8.extBut _ _ (Nat.ne_of_gt lz) (b7.extBut _ _ (Nat.ne_of_gt lz) (Heap.get?_push_size _ rfl))
      have s8 : g8.objs.size = g5.objs.size + 1 := by rw [b8.1, b7.1, Heap.size_push]
      rw [sz] at z8 T8 s8
      refine wpAny_pure ?_
      show Q (.done (.ret (.ref g5.objs.size))) _
      rw [sz]
      exact go x y (by first | exact hx | rfl) (by first | exact hy | rfl) g8 z8 (up _ _ D.TOz pO5) (m1c.up fun o e => up _ o D.i1z e) (m2c.up fun o e => up _ o D.i2z e) T8 s8 fun c o c1 c2 c3 c4 q => up c o c1 (up5 c o c1 c2 c3 c4 q)

theorem zip_next {t1 t2 : Bool} {z TI TO i1 i2 l1 l2 : Addr} {k1 k2 : Nat} {xs ys : Array Value} {a b : Value} {Q : Option Value → Shared → Prop} (hh : A.handled = none) (D : ZipApart z TI TO i1 i2 l1 l2)
    (qz : IsZip s.heap z TI TO .none) (pI : IsPair s.heap TI (.ref i1) (.ref i2)) (pO : IsPair s.heap TO a b)
    (m1 : SitIs t1 s.heap i1 l1 k1) (m2 : SitIs t2 s.heap i2 l2 k2) (n1 : SrcIs t1 s.heap l1 xs) (n2 : SrcIs t2 s.heap l2 ys)
    (go : ∀ x y, xs[k1]? = some x → ys[k2]? = some y → ∀ h', IsZip h' z TI TO (rawInt s.heap.objs.size) → IsPair h' TO x y → SitIs t1 h' i1 l1 (k1 + 1) → SitIs t2 h' i2 l2 (k2 + 1) → IsPair h' s.heap.objs.size x y →
      h'.objs.size = s.heap.objs.size + 1 → But4 z TO i1 i2 s.heap h' → Q (some (.ref s.heap.objs.size)) { s with heap := h' })
    (no : (xs[k1]? = none ∨ ys[k2]? = none) → ∀ h', But4 z TO i1 i2 s.heap h' → Q none { s with heap := h' }) : wpAny (model prog w) A (pyNext (.ref z)) Q E s := by
  have hT : s.TypeIs (.ref z) "zip" := ⟨_, qz, rfl⟩
  unfold pyNext
  refine wpAny_bind (wpAny_attempt (wpAny_callSpecial?_slot (name := Str.ofString "__next__") hT F.slot_zip_next (wpAny_call_entry F.slot_zip_next hT F.entry_zip_next
    (zip_step hh D qz pI pO m1 m2 n1 n2 (fun x y ex ey h' c1 c2 c3 c4 c5 c6 c7 => ⟨_, rfl, wpAny_pure (go x y ex ey h' c1 c2 c3 c4 c5 c6 c7)⟩) fun bad h' e but he => ?_) (F.args_zip_next_1 _))))
  obtain ⟨o, ho, hc⟩ := he
  exact wpAny_bind (wpAny_isInstance (T := "StopIteration") (b := true) ⟨o, ho, hc⟩ isSubtype_stop (wpAny_pure (no bad h' but)))
end

def itN (t : Bool) : String := if t then "tuple_iterator" else "list_iterator"
abbrev zh1 (t1 : Bool) (h : Heap) (l1 : Addr) : Heap := h.push { cls := .type (itN t1), data := .fields #[.ref l1, .int 0 0] }
abbrev zh2 (t1 t2 : Bool) (h : Heap) (l1 l2 : Addr) : Heap := (zh1 t1 h l1).push { cls := .type (itN t2), data := .fields #[.ref l2, .int 0 0] }
abbrev zh3 (t1 t2 : Bool) (h : Heap) (l1 l2 : Addr) : Heap := (zh2 t1 t2 h l1 l2).push { cls := .type "tuple", data := .seq #[.ref h.objs.size, .ref (zh1 t1 h l1).objs.size] }
abbrev zh4 (t1 t2 : Bool) (h : Heap) (l1 l2 : Addr) : Heap := (zh3 t1 t2 h l1 l2).push { cls := .type "tuple", data := .seq #[.none, .none] }
abbrev zh5 (t1 t2 : Bool) (h : Heap) (l1 l2 : Addr) : Heap :=
  (zh4 t1 t2 h l1 l2).push { cls := .type "zip", data := .fields #[.none, .bool false, .bool false, .ref (zh2 t1 t2 h l1 l2).objs.size, .ref (zh3 t1 t2 h l1 l2).objs.size] }
theorem zip_make (t1 t2 : Bool) (l1 l2 : Addr) (xs ys : Array Value) :
    Meets (Builtin.«zip.__new__» ⟨[.type "zip", .ref l1, .ref l2], []⟩) (fun _ R s => SrcIs t1 s.heap l1 xs ∧ SrcIs t2 s.heap l2 ys ∧
      R (.ok (.ret (.ref (zh4 t1 t2 s.heap l1 l2).objs.size))) { s with heap := zh5 t1 t2 s.heap l1 l2 }) :=
  .of_wp fun prog w A R s h => by
    obtain ⟨hp, g, d, tk, os⟩ := s; obtain ⟨n1, n2, h⟩ := h
    have hsub := sub_zip
    cases t1 <;> cases t2
    · have p1 : Heap.IsList (Shared.heap ⟨hp, g, d, tk, os⟩) l1 xs := n1
      have p2 : Heap.IsList (Shared.heap ⟨hp.push { cls := .type "list_iterator", data := .fields #[.ref l1, .int 0 0] }, g, d, tk, os⟩) l2 ys := Heap.IsList.push n2 _
      wp_walk using wpAny_pyIter_list p1, wpAny_pyIter_list p2
      exact ⟨_, rfl, h⟩
    · have p1 : Heap.IsList (Shared.heap ⟨hp, g, d, tk, os⟩) l1 xs := n1
      have p2 : Heap.IsTuple (Shared.heap ⟨hp.push { cls := .type "list_iterator", data := .fields #[.ref l1, .int 0 0] }, g, d, tk, os⟩) l2 ys := Heap.IsTuple.push n2 _
      wp_walk using wpAny_pyIter_list p1, wpAny_pyIter_tuple p2
      exact ⟨_, rfl, h⟩
    · have p1 : Heap.IsTuple (Shared.heap ⟨hp, g, d, tk, os⟩) l1 xs := n1
      have p2 : Heap.IsList (Shared.heap ⟨hp.push { cls := .type "tuple_iterator", data := .fields #[.ref l1, .int 0 0] }, g, d, tk, os⟩) l2 ys := Heap.IsList.push n2 _
      wp_walk using wpAny_pyIter_tuple p1, wpAny_pyIter_list p2
      exact ⟨_, rfl, h⟩
    · have p1 : Heap.IsTuple (Shared.heap ⟨hp, g, d, tk, os⟩) l1 xs := n1
      have p2 : Heap.IsTuple (Shared.heap ⟨hp.push { cls := .type "tuple_iterator", data := .fields #[.ref l1, .int 0 0] }, g, d, tk, os⟩) l2 ys := Heap.IsTuple.push n2 _
      wp_walk using wpAny_pyIter_tuple p1, wpAny_pyIter_tuple p2
      exact ⟨_, rfl, h⟩
section
variable {prog : Program} {w : World} {A : Around} {E : Value → Shared → Prop} {s : Shared}
theorem SitIs.new {t : Bool} {h : Heap} {it l : Addr} (q : h.get? it = some { cls := .type (itN t), data := .fields #[.ref l, .int 0 0] }) : SitIs t h it l 0 := by
  cases t with
  | true => exact ⟨_, q, rfl, rfl⟩
  | false => exact ⟨_, q, rfl, rfl⟩
theorem zip_call {t1 t2 : Bool} {l1 l2 : Addr} {xs ys : Array Value} {Q : Value → Shared → Prop} (n1 : SrcIs t1 s.heap l1 xs) (n2 : SrcIs t2 s.heap l2 ys)
    (q : ∀ h', IsZip h' (s.heap.objs.size + 4) (s.heap.objs.size + 2) (s.heap.objs.size + 3) .none → IsPair h' (s.heap.objs.size + 2) (.ref s.heap.objs.size) (.ref (s.heap.objs.size + 1)) →
      IsPair h' (s.heap.objs.size + 3) .none .none → SitIs t1 h' s.heap.objs.size l1 0 → SitIs t2 h' (s.heap.objs.size + 1) l2 0 → (∀ c o, s.heap.get? c = some o → h'.get? c = some o) → Q (.ref (s.heap.objs.size + 4)) { s with heap := h' }) :
    wpAny (model prog w) A (call (.type "zip") [.ref l1, .ref l2]) Q E s := by
  refine callType_new F.called_zip (by decide) (F.typeCall_zip_2 _ _) (F.newCall_zip_2 _ _) (fun obj => F.args_object_init_3 obj _ _) F.entry_zip_new (zip_make t1 t2 l1 l2 xs ys) ⟨n1, n2, ?_⟩
  have e1 : (zh1 t1 s.heap l1).objs.size = s.heap.objs.size + 1 := Heap.size_push ..
  have e2 : (zh2 t1 t2 s.heap l1 l2).objs.size = s.heap.objs.size + 2 := by rw [Heap.size_push, e1]
  have e3 : (zh3 t1 t2 s.heap l1 l2).objs.size = s.heap.objs.size + 3 := by rw [Heap.size_push, e2]
  have e4 : (zh4 t1 t2 s.heap l1 l2).objs.size = s.heap.objs.size + 4 := by rw [Heap.size_push, e3]
  have up : ∀ {h : Heap} {o : Obj} {a : Addr} {x : Obj}, h.get? a = some x → (h.push o).get? a = some x := fun q => Heap.get?_push_of_some _ q
  have f5 : (zh5 t1 t2 s.heap l1 l2).get? (zh4 t1 t2 s.heap l1 l2).objs.size = some _ := Heap.get?_push_size _ rfl
  have f4 : (zh5 t1 t2 s.heap l1 l2).get? (zh3 t1 t2 s.heap l1 l2).objs.size = some _ := up (Heap.get?_push_size _ rfl)
  have f3 : (zh5 t1 t2 s.heap l1 l2).get? (zh2 t1 t2 s.heap l1 l2).objs.size = some _ := up (up (Heap.get?_push_size _ rfl))
  have f2 : (zh5 t1 t2 s.heap l1 l2).get? (zh1 t1 s.heap l1).objs.size = some _ := up (up (up (Heap.get?_push_size _ rfl)))
  have f1 : (zh5 t1 t2 s.heap l1 l2).get? s.heap.objs.size = some _ := up (up (up (up (Heap.get?_push_size _ rfl))))
  show _ ∧ _
  rw [e2, e3, e4] at f5
  rw [e1, e2] at f3
  rw [e3] at f4; rw [e1] at f2; rw [e4]
  exact ⟨⟨_, f5, rfl⟩, q _ f5 f3 f4 (.new f1) (.new f2) fun c o x => up (up (up (up (up x))))⟩
end
end J
namespace J
open PySem PySem.Spec L2 PyProof.Rows
def SqM (t : Bool) (K : PySem.W.Frag) (H : Hp) (a : Addr) (xs : List V) : Prop := if t then SqT K H a xs else SqL K H a xs
theorem Inv_src {X : Cx} {pins σ H s} (I : Inv X pins σ H s) {t : Bool} {a : Addr} {xs : List V} (h : SqM t X.K H a xs) : ∃ its : List Value, Vals xs its ∧ SrcIs t s.heap a its.toArray := by
  cases t with
  | true => obtain ⟨its, r, p, _⟩ := I.tuple h; exact ⟨its, r, p⟩
  | false => obtain ⟨its, r, p, _⟩ := I.list h; exact ⟨its, r, p.isList⟩
theorem Inv_inj {X : Cx} {pins σ H s} (I : Inv X pins σ H s) {t : Bool} {a : Addr} {xs ys : List V} (h : SqM t X.K H a xs) (h' : SqM t X.K H a ys) : xs = ys := by
  cases t with
  | true => exact I.tuple_inj h h'
  | false => exact I.list_inj h h'
/-- the items of both, in new pairs -/
def ItM (K : PySem.W.Frag) (t1 t2 : Bool) (a b : Addr) : It :=
  ⟨fun i H => ∃ (xs ys : List V) (x y : V), SqM t1 K H a xs ∧ SqM t2 K H b ys ∧ xs[i]? = some x ∧ ys[i]? = some y,
    fun i H v H' => ∃ T x y, v = .ref T ∧ H T = none ∧ H' = upd H T (.tup [x, y]) ∧ (∀ xs, SqM t1 K H a xs → xs[i]? = some x) ∧ ∀ ys, SqM t2 K H b ys → ys[i]? = some y,
    fun i H => ∃ xs ys : List V, SqM t1 K H a xs ∧ SqM t2 K H b ys ∧ (xs.length ≤ i ∨ ys.length ≤ i)⟩
theorem five {z TI TO i1 i2 c : Addr} (h : c ∈ [z, TI, TO, i1, i2]) : c = z ∨ c = TI ∨ c = TO ∨ c = i1 ∨ c = i2 := by simpa using h
theorem zip_turn {P : Program} {w : World} {K : PySem.W.Frag} {elts : List Expr} {kk : Nat} {tpos : Pos} {t1 t2 : Bool} {a b z TI TO i1 i2 : Addr} (D : ZipApart z TI TO i1 i2 a b) :
    Turn P w K (.Tuple elts kk tpos) (ItM K t1 t2 a b) [z, TI, TO, i1, i2] z (fun i h => IsZip h z TI TO .none ∧ IsPair h TI (.ref i1) (.ref i2) ∧ (∃ x y, IsPair h TO x y) ∧ SitIs t1 h i1 a i ∧ SitIs t2 h i2 b i) where
  mem := by simp
  obj := fun i h st c hc => by
    obtain ⟨qz, pI, ⟨x, y, pO⟩, m1, m2⟩ := st
    obtain ⟨o1, e1, d1⟩ := m1.obj
    obtain ⟨o2, e2, d2⟩ := m2.obj
    rcases five hc with rfl | rfl | rfl | rfl | rfl
    · exact ⟨_, qz, fun v q => nomatch q⟩
    · exact ⟨_, pI, fun v q => nomatch q⟩
    · exact ⟨_, pO, fun v q => nomatch q⟩
    · exact ⟨o1, e1, fun v q => by rw [d1] at q; cases q⟩
    · exact ⟨o2, e2, fun v q => by rw [d2] at q; cases q⟩
  keep := fun i h h' st k => by
    obtain ⟨qz, pI, ⟨x, y, pO⟩, m1, m2⟩ := st
    exact ⟨k z (by simp) _ qz, k TI (by simp) _ pI, ⟨x, y, k TO (by simp) _ pO⟩, m1.up fun o q => k i1 (by simp) o q, m2.up fun o q => k i2 (by simp) o q⟩
  item := by
    intro X hP hw hK hc i pins s σ H E I hf st hg
    subst hP hw hK
    obtain ⟨qz, pI, ⟨x0, y0, pO⟩, m1, m2⟩ := st
    obtain ⟨xs, ys, x, y, sx, sy, hx, hy⟩ := hg
    obtain ⟨us, rv, n1⟩ := Inv_src I sx
    obtain ⟨vs, rw', n2⟩ := Inv_src I sy
    obtain ⟨u, hu, ru⟩ := rv.get hx
    obtain ⟨v, hv, rv'⟩ := rw'.get hy
    have lz : z < s.heap.objs.size := Heap.lt_size qz
    refine zip_next (I.ok.hd hc) D qz pI pO m1 m2 n1 n2 (fun u' v' eu ev h' z' O' m1' m2' hT sz hk => ?_) fun bad => ?_
    · have eu : us[i]? = some u' := by simpa using eu
      have ev : vs[i]? = some v' := by simpa using ev
      rw [hu] at eu; cases eu; rw [hv] at ev; cases ev
      refine ⟨_, rfl, wpAny_letOwnedTupleGo_zip (s := { s with heap := h' }) z' fun h'' z'' sb => ?_⟩
      have hT2 : h''.get? s.heap.objs.size = some { cls := .type "tuple", data := .seq #[u, v] } := (sb.2 _ (Nat.ne_of_gt lz)).trans hT
      have new : ObjOk X.prog X.w (upd H s.heap.objs.size (.tup [x, y])) h'' s.heap.objs.size (.tup [x, y]) := ⟨by show 2 ≤ sizeLine; decide, [u, v], .cons ru (.cons rv' .nil), ⟨_, hT2, rfl, _, rfl⟩⟩
      have I1 : Inv X pins σ (upd H s.heap.objs.size (.tup [x, y])) { s with heap := h'' } := I.turnedNew (t' := s.toks) (ch := [z, TI, TO, i1, i2]) (fun c o hb q => (sb.2 c fun e => hb (by simp [e])).trans
        (hk c o (fun e => hb (by simp [e])) (fun e => hb (by simp [e])) (fun e => hb (by simp [e])) (fun e => hb (by simp [e])) q)) hf (Nat.le_refl _) new
      refine ⟨.ref s.heap.objs.size, _, I1, rfl, ⟨_, x, y, rfl, I.hok.fresh (Nat.le_refl _), rfl, fun l hl => by rw [Inv_inj I hl sx]; exact hx, fun l hl => by rw [Inv_inj I hl sy]; exact hy⟩, ⟨z'', (sb.2 _ D.TIz).trans (hk _ _ D.TIz D.TITO D.TIi1 D.TIi2 pI),
        ⟨u, v, (sb.2 _ D.TOz).trans O'⟩, m1'.up fun o q => (sb.2 _ D.i1z).trans q, m2'.up fun o q => (sb.2 _ D.i2z).trans q⟩, fun c hcm => ?_⟩
      have lt : c < s.heap.objs.size := by
        rcases five hcm with rfl | rfl | rfl | rfl | rfl
        · exact lz
        · exact Heap.lt_size pI
        · exact Heap.lt_size pO
        · obtain ⟨_, q, _⟩ := m1.obj; exact Heap.lt_size q
        · obtain ⟨_, q, _⟩ := m2.obj; exact Heap.lt_size q
      rw [upd_ne (Nat.ne_of_lt lt)]
      exact (hf c hcm).1
    · rcases bad with q | q
      · have q : us[i]? = none := by simpa using q
        rw [hu] at q; cases q
      · have q : vs[i]? = none := by simpa using q
        rw [hv] at q; cases q
  done := by
    intro X hP hw hK hc i pins s σ H E I hf st hg
    subst hP hw hK
    obtain ⟨qz, pI, ⟨x0, y0, pO⟩, m1, m2⟩ := st
    obtain ⟨xs, ys, sx, sy, hend⟩ := hg
    obtain ⟨us, rv, n1⟩ := Inv_src I sx
    obtain ⟨vs, rw', n2⟩ := Inv_src I sy
    have l1 := rv.length
    have l2 := rw'.length
    refine zip_next (I.ok.hd hc) D qz pI pO m1 m2 n1 n2 (fun u' v' eu ev => ?_) fun _ h' hk => ⟨rfl, I.turnedL (t' := s.toks) (ch := [z, TI, TO, i1, i2]) (fun c o hb q =>
      hk c o (fun e => hb (by simp [e])) (fun e => hb (by simp [e])) (fun e => hb (by simp [e])) (fun e => hb (by simp [e])) q) hf⟩
    have eu : us[i]? = some u' := by simpa using eu
    have ev : vs[i]? = some v' := by simpa using ev
    have q1 := (List.getElem?_eq_some_iff.mp eu).1
    have q2 := (List.getElem?_eq_some_iff.mp ev).1
    exact absurd hend (by omega)
  self := fun A i s Q E st h => wpAny_pyIter_zip st.1 h
def iZipM (K : PySem.W.Frag) (ta : TA) : TI := fun σ H R => ta σ H fun vs H1 => ∃ t1 t2 a b xs ys, vs = [.ref a, .ref b] ∧ SqM t1 K H1 a xs ∧ SqM t2 K H1 b ys ∧ R (ItM K t1 t2 a b) H1
theorem pi_zipM {X : Cx} {e e2 : Expr} {ta : TA} {p pos tpos : Pos} {elts : List Expr} {kk : Nat} (hg : Gl X "zip") (hm : X.mg "zip" = none) (ha : PA X [e, e2] ta)
    (hs : starEach [e, e2] X.env = (false, eval e X.env) :: starEach [e2] X.env := by rfl) (hpl : (backTo pos (starEach [e2] X.env)).any (·.1) = false := by rfl) :
    PI X (.Tuple elts kk tpos) (.Call (.Name "zip" p) [e, e2] [] pos) (iZipM X.K ta) := by
  refine ⟨fun pins s σ H R I h => ?_⟩
  refine Call_ (ld_blt I hg hm PyProof.Rows.boot_zip (PyProof.Rows.callWith_type1 (thn (ha.run pos pins s σ H _ I h) fun us s1 ⟨vs, H1, I1, r1, q1⟩ => ?_) hs hpl))
  obtain ⟨t1, t2, a, b, xs, ys, rfl, sx, sy, q⟩ := q1
  cases r1 with
  | cons r rr =>
    cases rr with
    | cons r' rr =>
      cases rr; cases r; cases r'
      have new5 : ∀ c, c ∈ [s1.heap.objs.size + 4, s1.heap.objs.size + 2, s1.heap.objs.size + 3, s1.heap.objs.size, s1.heap.objs.size + 1] → FpOk X pins H1 c := fun c hcm => by
        have le : s1.heap.objs.size ≤ c := by rcases five hcm with rfl | rfl | rfl | rfl | rfl <;> omega
        exact I1.fpOk le (I1.hok.fresh le)
      obtain ⟨us, rv, n1⟩ := Inv_src I1 sx
      obtain ⟨vs, rw', n2⟩ := Inv_src I1 sy
      refine zip_call n1 n2 fun h' qz pI pO m1 m2 hk => wpAny_pyIter_zip qz ?_
      have I2 : Inv X pins σ H1 { s1 with heap := h' } := I1.kept (t' := s1.toks) hk
      exact ⟨s1.heap.objs.size + 4, [s1.heap.objs.size + 4, s1.heap.objs.size + 2, s1.heap.objs.size + 3, s1.heap.objs.size, s1.heap.objs.size + 1], _, _, H1, rfl, I2,
        zip_turn (PySem.W.ktu_apart s1.heap.objs.size a b n1.lt n2.lt), ⟨qz, pI, ⟨_, _, pO⟩, m1, m2⟩, new5, q⟩
end J
namespace J
open PySem PySem.Spec L2
section
variable {X : Cx} {ct : List (Str × List Str)} {Wx : WX} {a b : Expr} {f f1 f2 : CE} {pos p : Pos}
theorem rep_src {W1 : Wd} {H1 : Hp} {d : D} {v : V} {ds : List D} (r : Rep (Gx X ct) W1 H1 d v) (e : items d = some ds) (l : LenOk H1) :
    ∃ t q vs, v = .ref q ∧ Reps (Gx X ct) W1 H1 ds vs ∧ vs.length ≤ sizeLine ∧ ∀ W' H', Ext0 W1 H1 W' H' → SqM t X.K H' q vs := by
  cases r with
  | @lst q vs ds z h r => cases e; exact ⟨false, q, vs, rfl, r, l.1 _ _ (.inl h), fun W' H' x => .of (x.ls _ _ z h)⟩
  | @tup q vs ds h r => cases e; exact ⟨true, q, vs, rfl, r, l.2 _ _ h, fun W' H' x => .of (x.tp _ _ h)⟩
  | @scr q vs ds h r =>
    cases e
    refine ⟨false, q, vs, rfl, r, ?_, fun W' H' x => ?_⟩
    · rcases h with ⟨o, h⟩ | ⟨o, its, n, _, _, _, _, hz, rv⟩
      · exact l.1 _ _ (.inr ⟨o, h⟩)
      · have := rv.length
        simp only [Array.length_toList] at this
        omega
    · rcases h with ⟨o, h⟩ | h
      · exact .inl (.inr ⟨o, x.fz _ _ _ h⟩)
      · exact .inr h
  | _ => cases e
theorem pi_zip {elts : List Expr} {kk : Nat} {tpos : Pos} (hm : X.mg "zip" = none) (h1 : PF X ct Wx a f1) (h2 : PF X ct Wx b f2) (hg : Gl X "zip" := by rfl)
    (hs : starEach [a, b] X.env = (false, eval a X.env) :: starEach [b] X.env := by rfl) (hs2 : starEach [b] X.env = (false, eval b X.env) :: starEach [] X.env := by rfl)
    (hp : (backTo pos (starEach [b] X.env)).any (·.1) = false := by rfl) : PIf X ct Wx (.Tuple elts kk tpos) (.Call (.Name "zip" p) [a, b] [] pos) (iZip f1 f2) := by
  refine PI_fin (pi_zipM hg hm (pa_cons h1 (pa_cons h2 pa_nil hs2) hs) hs hp) ?_
  rintro σ H R l ⟨W0, H0, W, E, M, rel, p⟩
  refine ⟨W0, H0, W, E, M, rel, Post.bind p fun d1 M1 W1 H1 v1 _ x1 rel1 p1 l1 p => ?_⟩
  refine ⟨W0, H0, W1, E, M1, rel1, Post.bind p fun d2 M2 W2 H2 v2 _ x2 rel2 p2 l2 p => ?_⟩
  split at p
  · rename_i ds es e1 e2
    obtain ⟨t1, q1, vs, rfl, r1, z1, s1⟩ := rep_src (p1.mono x2.toExt0) e1 l2
    obtain ⟨t2, q2, us, rfl, r2, z2, s2⟩ := rep_src p2 e2 l2
    refine ⟨t1, t2, q1, q2, vs, us, rfl, s1 _ _ Ext0.refl, s2 _ _ Ext0.refl, fun l' => p W2 H2 _ Ext.refl rel2 ⟨fun W' H' M' x c l2 i hi => ⟨fun d hd => ?_, fun hi => ?_⟩, ?_⟩ l'⟩
    · obtain ⟨x1, x2, g1, g2, rfl⟩ := pairUp_at _ _ _ _ hd
      obtain ⟨w1, k1, _⟩ := r1.get g1
      obtain ⟨w2, k2, _⟩ := r2.get g2
      refine ⟨⟨vs, us, w1, w2, s1 _ _ x, s2 _ _ x, k1, k2⟩, fun y H'' hy => ?_⟩
      obtain ⟨T, y1, y2, rfl, hT, rfl, c1, c2⟩ := hy
      exact new_pair c l2 hT (reps_at (r1.mono x) g1 (c1 vs (s1 _ _ x))) (reps_at (r2.mono x) g2 (c2 us (s2 _ _ x)))
    · refine ⟨vs, us, s1 _ _ x, s2 _ _ x, ?_⟩
      rw [pairUp_len] at hi
      have := r1.length
      have := r2.length
      omega
    · rw [pairUp_len]
      have := r1.length
      omega
  · exact p.elim
end
end J
namespace J
open PySem PySem.Spec L2
/-! ### x in a list or tuple of data of any depth -/
def gInD : D → D → Option D
  | x, .tup ds => if flatD 60 x && (flatD 64 x && flatD 64 (.tup ds)) then some (.bl (ds.any fun y => eqD y x)) else none
  | x, .lst ds => if flatD 60 x && (flatD 64 x && flatD 64 (.lst ds)) then some (.bl (ds.any fun y => eqD y x)) else none
  | _, _ => none
def gNotInD (x y : D) : Option D := (gInD x y).bind gNot
/-- a is b, of two truth values -/
@[simp] def gIsB : D → D → Option D
  | .bl a, .bl b => some (.bl (decide (a = b)))
  | _, _ => none
@[simp] def gNotB : D → D → Option D
  | .bl a, .bl b => some (.bl (!decide (a = b)))
  | _, _ => none
section
variable {X : Cx} {ct : List (Str × List Str)}
def rDeep (K : PySem.W.Frag) (neg : Bool) : R2 := fun x y H Q => ∃ (t : Bool) (d : PyData) (ds : List PyData), Dp K H x d ∧ Dp K H y (if t then .tuple ds else .list ds) ∧ d.canLay0 = true ∧ d.depth ≤ 60 ∧ PyData.canLayAll0 ds = true ∧
  Q (.bl (if neg then !(ds.any fun z => PyData.eqv z d) else ds.any fun z => PyData.eqv z d)) H
theorem op_deep (hu : X.A.units + 64 < cLine) (neg : Bool) : OpR X (compareOp (if neg then .NotIn else .In)) (rDeep X.K neg) := by
  intro pins s σ H x y v u Q I rx ry h
  obtain ⟨t, d, ds, hd, he, cd, dd, cs, q⟩ := h
  obtain ⟨as, r1⟩ := Dp.reads I d x v hd rx
  have room : X.A.units + 1 + min (PyData.depthAll ds) d.depth < cLine := by
    have := Nat.min_le_right (PyData.depthAll ds) d.depth
    omega
  cases t with
  | true =>
    obtain ⟨bs, r2⟩ := Dp.reads I (.tuple ds) y u he ry
    cases neg with
    | true => exact SeqAt.notIn_tuple_reads r2 r1 cs cd room ⟨.bl _, H, I, rfl, q⟩
    | false => exact SeqAt.in_tuple_reads r2 r1 cs cd room ⟨.bl _, H, I, rfl, q⟩
  | false =>
    obtain ⟨bs, r2⟩ := Dp.reads I (.list ds) y u he ry
    cases neg with
    | true => exact SeqAt.notIn_list_reads r2 r1 cs cd room ⟨.bl _, H, I, rfl, q⟩
    | false => exact SeqAt.in_list_reads r2 r1 cs cd room ⟨.bl _, H, I, rfl, q⟩
theorem any_eqD {n m : Nat} {x : D} (fx : flatD n x = true) : ∀ {ds : List D}, flatDs m ds = true → (toPys ds).any (fun z => PyData.eqv z (toPy x)) = ds.any fun y => eqD y x
  | [], _ => rfl
  | d :: ds, f => by
    rw [flatDs, Bool.and_eq_true] at f
    have h1 := any_eqD fx f.2
    have h2 := eqv_eqD f.1 fx
    show (PyData.eqv (toPy d) (toPy x) || (toPys ds).any fun z => PyData.eqv z (toPy x)) = (eqD d x || ds.any fun y => eqD y x)
    rw [h1, h2]
theorem deep_case {W0 W : Wd} {H0 H : Hp} {σ : L2.St} {E : Env} {M : Mem} {d1 d2 d : D} {v1 v2 : V} (rel : Rel (Gx X ct) W0 H0 W σ H E M) (s1 : Seen (Gx X ct) W H σ E d1 v1) (s2 : Seen (Gx X ct) W H σ E d2 v2) (q : gInD (view M d1) (view M d2) = some d) :
    ∃ b, d = .bl b ∧ ∃ (t : Bool) (d' : PyData) (ds : List PyData), Dp X.K H v1 d' ∧ Dp X.K H v2 (if t then .tuple ds else .list ds) ∧ d'.canLay0 = true ∧ d'.depth ≤ 60 ∧ PyData.canLayAll0 ds = true ∧ (ds.any fun z => PyData.eqv z d') = b := by
  unfold gInD at q
  split at q
  · rename_i ds e2
    split at q
    · rename_i c
      simp only [Bool.and_eq_true] at c
      obtain ⟨c0, c1, c2⟩ := c
      cases q
      have c3 : flatDs 63 ds = true := by simpa [flatD] using c2
      have h2 := view_flat rel s2 (by rw [e2]; exact c2)
      rw [e2] at h2
      exact ⟨_, rfl, true, _, toPys ds, view_flat rel s1 c1, h2, (flat_can c0).1, (flat_can c0).2, (flats_can c3).1, any_eqD c1 c3⟩
    · cases q
  · rename_i ds e2
    split at q
    · rename_i c
      simp only [Bool.and_eq_true] at c
      obtain ⟨c0, c1, c2⟩ := c
      cases q
      have c3 : flatDs 63 ds = true := by simpa [flatD] using c2
      have h2 := view_flat rel s2 (by rw [e2]; exact c2)
      rw [e2] at h2
      exact ⟨_, rfl, false, _, toPys ds, view_flat rel s1 c1, h2, (flat_can c0).1, (flat_can c0).2, (flats_can c3).1, any_eqD c1 c3⟩
    · cases q
  · cases q
theorem of_inD (hu : X.A.units + 64 < cLine) : OpF X ct (compareOp .In) gInD := by
  refine ⟨_, op_deep hu false, fun W0 H0 W σ H E M d1 d2 v1 v2 d Q rel l s1 s2 q k => ?_⟩
  obtain ⟨b, rfl, t, d', ds, h1, h2, h3, h4, h5, rfl⟩ := deep_case rel s1 s2 q
  exact ⟨t, d', ds, h1, h2, h3, h4, h5, k W H _ Ext.refl rel.toCRel (.bl _) l⟩
theorem of_notInD (hu : X.A.units + 64 < cLine) : OpF X ct (compareOp .NotIn) gNotInD := by
  refine ⟨_, op_deep hu true, fun W0 H0 W σ H E M d1 d2 v1 v2 d Q rel l s1 s2 q k => ?_⟩
  unfold gNotInD at q
  rw [Option.bind_eq_some_iff] at q
  obtain ⟨d', q, q'⟩ := q
  obtain ⟨b, rfl, t, d', ds, h1, h2, h3, h4, h5, rfl⟩ := deep_case rel s1 s2 q
  cases q'
  exact ⟨t, d', ds, h1, h2, h3, h4, h5, k W H _ Ext.refl rel.toCRel (.bl _) l⟩
theorem of_isB : OpF X ct (compareOp .Is) gIsB := by
  refine ⟨_, op_is_bl, fun W0 H0 W σ H E M d1 d2 v1 v2 d Q rel l s1 s2 q k => ?_⟩
  unfold gIsB at q
  split at q
  · rename_i a b e1 e2
    cases q
    obtain rfl := see_bl rel s1 e1
    obtain rfl := see_bl rel s2 e2
    exact ⟨a, b, rfl, rfl, k W H _ Ext.refl rel.toCRel (.bl _) l⟩
  · cases q
theorem of_notB : OpF X ct (compareOp .IsNot) gNotB := by
  refine ⟨_, op_isnot_bl, fun W0 H0 W σ H E M d1 d2 v1 v2 d Q rel l s1 s2 q k => ?_⟩
  unfold gNotB at q
  split at q
  · rename_i a b e1 e2
    cases q
    obtain rfl := see_bl rel s1 e1
    obtain rfl := see_bl rel s2 e2
    exact ⟨a, b, rfl, rfl, k W H _ Ext.refl rel.toCRel (.bl _) l⟩
  · cases q
end
end J
namespace J
open PySem PySem.Spec L2
/-- x, y = a, b -/
@[simp] def sPar (i j : Nat) (g : CA) : CS := fun E M => (g E M).stA E fun ds M => match ds with
  | [d1, d2] => .ok (.nx, (E.set i (.sh d1)).set j (.sh d2)) M
  | _ => .bad
@[simp] def sPar3 (i j l : Nat) (g : CA) : CS := fun E M => (g E M).stA E fun ds M => match ds with
  | [d1, d2, d3] => .ok (.nx, ((E.set i (.sh d1)).set j (.sh d2)).set l (.sh d3)) M
  | _ => .bad
/-- raise X() -/
@[simp] def sRaise (c : Nat) : CS := fun E M => .ok (.ex c [], E) M
/-- try: s except X: h; m tells of each class whether X takes it -/
@[simp] def sTry (m : Nat → Option Bool) (s h : CS) : CS := fun E M => match s E M with
  | .ok (.ex c ds, E) M => match m c with
    | some true => h E M
    | some false => .ok (.ex c ds, E) M
    | none => .bad
  | r => r
def tabM : List (Nat × Bool) → Nat → Option Bool
  | [], _ => none
  | (d, b) :: r, c => if c = d then some b else tabM r c
section
variable {X : Cx} {ct : List (Str × List Str)} {Wx : WX} {a b c : Expr} {x y z : Str} {g : CA} {px py pz pt pos : Pos}
theorem s_par {kt k2 pt2} (i j : Nat) (hc : X.calm = true) (hN : X.N.Nodup) (ha : PAf X ct Wx [a, b] g) (hi : X.N[i]? = some x := by rfl) (hj : X.N[j]? = some y := by rfl) (hij : i ≠ j := by decide)
    (hx : X.env.scope.names.lookup x = some .local := by rfl) (hy : X.env.scope.names.lookup y = some .local := by rfl)
    (hw : swappedStores [.Tuple [.Name x px, .Name y py] kt pt] (.Tuple [a, b] k2 pt2) X.env = pure (some [x, y]) := by rfl)
    (hs : swapsWithSole [.Tuple [.Name x px, .Name y py] kt pt] (.Tuple [a, b] k2 pt2) pos.line X.env = pure false := by rfl) :
    PSf X ct Wx (.Assign [.Tuple [.Name x px, .Name y py] kt pt] (.Tuple [a, b] k2 pt2) pos) (sPar i j g) := by
  refine PS_fin (ps_par hc hN hi hj hij hx hy ha hw hs) ?_
  rintro D σ H l ⟨W0, H0, W, E, M, rel, p⟩
  refine ⟨W0, H0, W, E, M, rel, PostS.bindA p fun ds M1 W1 H1 vs _ x1 rel1 r1 l1 p => ?_⟩
  split at p
  · rename_i d1 d2
    cases r1 with
    | cons h1 t =>
      cases t with
      | cons h2 t =>
        cases t
        exact ⟨_, _, rfl, fun l' => p W1 _ H1 Ext0.refl ((rel1.set i h1).set j h2) l1⟩
  · exact p.elim
theorem s_par3 {kt k2 pt2} (i j n : Nat) (hc : X.calm = true) (hN : X.N.Nodup) (ha : PAf X ct Wx [a, b, c] g) (hi : X.N[i]? = some x := by rfl) (hj : X.N[j]? = some y := by rfl) (hn : X.N[n]? = some z := by rfl) (hij : i ≠ j := by decide) (hin : i ≠ n := by decide) (hjn : j ≠ n := by decide)
    (hx : X.env.scope.names.lookup x = some .local := by rfl) (hy : X.env.scope.names.lookup y = some .local := by rfl) (hz : X.env.scope.names.lookup z = some .local := by rfl)
    (hw : swappedStores [.Tuple [.Name x px, .Name y py, .Name z pz] kt pt] (.Tuple [a, b, c] k2 pt2) X.env = pure (some [x, y, z]) := by rfl)
    (hs : swapsWithSole [.Tuple [.Name x px, .Name y py, .Name z pz] kt pt] (.Tuple [a, b, c] k2 pt2) pos.line X.env = pure false := by rfl) :
    PSf X ct Wx (.Assign [.Tuple [.Name x px, .Name y py, .Name z pz] kt pt] (.Tuple [a, b, c] k2 pt2) pos) (sPar3 i j n g) := by
  refine PS_fin (ps_par3 hc hN hi hj hn hij hin hjn hx hy hz ha hw hs) ?_
  rintro D σ H l ⟨W0, H0, W, E, M, rel, p⟩
  refine ⟨W0, H0, W, E, M, rel, PostS.bindA p fun ds M1 W1 H1 vs _ x1 rel1 r1 l1 p => ?_⟩
  split at p
  · rename_i d1 d2 d3
    cases r1 with
    | cons h1 t =>
      cases t with
      | cons h2 t =>
        cases t with
        | cons h3 t =>
          cases t
          exact ⟨_, _, _, rfl, fun l' => p W1 _ H1 Ext0.refl (((rel1.set i h1).set j h2).set n h3) l1⟩
  · exact p.elim
end
/-! ### exceptions -/
def veBase : List Value := [.type "ValueError", .type "Exception", .type "BaseException", .type "object"]
/-- the class with the number c is an exception class of the program's own, without own __init__ -/
structure ExcX (K : PySem.W.Frag) (mg : Str → Option Value) (ct : List (Str × List Str)) (c : Nat) (nm : Str) : Prop where
  ex : ∃ C, ct[c]? = some (nm, []) ∧ mg nm = some (.ref C) ∧ PySem.W.excIn K C veBase "ValueError.__new__" = true ∧ PySem.W.keepIn K (.ref C) = true ∧ PySem.W.subIn K (.ref C) (.type "BaseException") = some true ∧ PySem.W.typeIn K (.ref C) = some (.type "type")
/-- whether the class d takes the class c -/
structure ExmX (K : PySem.W.Frag) (mg : Str → Option Value) (ct : List (Str × List Str)) (c d : Nat) (b : Bool) : Prop where
  ex : ∃ n1 s1 C n2 s2 D, ct[c]? = some (n1, s1) ∧ ct[d]? = some (n2, s2) ∧ mg n1 = some (.ref C) ∧ mg n2 = some (.ref D) ∧ PySem.W.exmOne K (.ref C) (.ref D) = some b
section
variable {X : Cx} {ct : List (Str × List Str)} {Wx : WX} {x : Str} {p pos pos' np : Pos} {body suite : List Stmt} {s h : CS} {b₀ : Stmt}
/-- X() -/
theorem pmk_own0 {C : Addr} {bmB : List Value} {B newId initId : String} (F : ExcBaseFacts B newId initId bmB) (q : PySem.W.excIn X.K C bmB newId = true) (gC : X.mg x = some (.ref C)) (kC : PySem.W.keepIn X.K (.ref C) = true) (r : Raises X (.ref C)) (hg : Gl X x)
    (hdb : (x == ("__debug__" : Str)) = false := by decide) : PMk X (.Call (.Name x p) [] [] pos) (fun _ H Q => Q (.ref C) none H) := by
  intro pins s σ H Q I h
  refine wpAny_Call_Name_kw (ld_glob I hg gC ?_ hdb)
  refine PySem.W.callWith_K0 I.kIn kC ?_
  obtain ⟨bm, N, nm, qn, bs, hdct, sn, sub, ab, col, dd, k0, k1, k2, k3, k5, mN, hC, hN, hni, T⟩ := exc_obj I.kIn q
  refine wpAny_call_exc_subT F T hC hN hni (fun h' e hm => ?_) (by show 0 ≤ sizeLine; exact Nat.zero_le _)
  exact mk_of I hm r h (I.hok.gone hm.new)
theorem s_raise (cn : Nat) (T : ExcX X.K X.mg ct cn x) (hc : X.calm = true) (tk : Takes X Wx) (hg : Gl X x := by rfl) (hdb : (x == ("__debug__" : Str)) = false := by decide) :
    PSf X ct Wx (.Raise (some (.Call (.Name x p) [] [] pos)) none pos') (sRaise cn) := by
  obtain ⟨C, h1, h2, h3, h4, h5, h6⟩ := T.ex
  refine PS_fin (ps_raise hc tk (pmk_own0 PySem.F.excBase_ValueError h3 h2 h4 (raises_own h5 h6) hg hdb)) ?_
  rintro D σ H l ⟨W0, H0, W, E, M, rel, p⟩
  exact p W σ H Ext0.refl rel l C none ⟨x, [], h1, h2, .inl ⟨rfl, rfl, rfl⟩⟩
theorem s_try {m : Nat → Option Bool} (dn : Nat) (hm : ∀ c b, m c = some b → ExmX X.K X.mg ct c dn b) (hD : ∃ D ns, ct[dn]? = some (x, ns) ∧ X.mg x = some (.ref D)) (hs : X.stack = X.env :: X.outer) (hf : X.env.frame = some X.env.locals) (tk : Takes X Wx)
    (hb : ∀ (W : WX) (pn : List (Addr × Obj)) (xe : Value → Shared → Prop), Takes (X.tr pn xe) W → PassesOwn (model X.prog X.w) X.A X.env xe → PSsf (X.tr pn xe) ct W body s)
    (hsu : ∀ (a : Addr) (oe : Obj) (pn : List (Addr × Obj)), PSsf (X.suite a ((a, oe) :: pn)) ct Wx (b₀ :: suite) h) (hg : Gl X x := by rfl) (hdb : (x == ("__debug__" : Str)) = false := by decide) :
    PSf X ct Wx (.Try body [.ExceptHandler (some (.Name x np)) none (b₀ :: suite) pos'] [] [] pos) (sTry m s h) := by
  obtain ⟨D0, nsD, d1, d2⟩ := hD
  refine PS_fin (ps_try_only (c := .ref D0) (tb := fun W => tS (Gx X ct) W s) (ts := fun _ _ _ => tS (Gx X ct) Wx h) hs hf ⟨hg, hdb, .inl d2⟩ tk (fun W pn xe t1 t2 => hb W pn xe t1 t2) (fun a oe cls d pn _ _ => hsu a oe pn)) ?_
  rintro D σ H l ⟨W0, H0, W, E, M, rel, p⟩
  refine ⟨W0, H0, W, E, M, rel, ?_⟩
  unfold sTry at p
  cases q : s E M with
  | bad => rw [q] at p; exact p
  | exc cn ds M' => rw [q] at p; exact p
  | ok a M' =>
    rw [q] at p
    obtain ⟨fl, E'⟩ := a
    cases fl with
    | nx => exact fun W' σ' H' x r l => (p W' σ' H' x r l : D.nx σ' H') |> fun z _ => z
    | bk => exact fun W' σ' H' x r l => (p W' σ' H' x r l : D.bk σ' H') |> fun z _ => z
    | ct => exact fun W' σ' H' x r l => (p W' σ' H' x r l : D.ct σ' H') |> fun z _ => z
    | rt d => exact fun W' σ' H' x r l v hv _ => p W' σ' H' x r l v hv
    | ex cn ds =>
      dsimp only at p
      intro W' σ' H' x r l C o he
      obtain ⟨nm, ns, e1, e2, e3⟩ := id he
      cases qm : m cn with
      | none => rw [qm] at p; exact p.elim
      | some b =>
        rw [qm] at p
        obtain ⟨n1, s1, C1, n2, s2, D1, m1, m2, m3, m4, m5⟩ := (hm cn b qm).ex
        have e1 : ct[cn]? = some (nm, ns) := e1
        rw [m1] at e1
        cases e1
        have e2 : X.mg _ = some (.ref C) := e2
        rw [m3] at e2
        cases e2
        rw [d1] at m2
        cases m2
        rw [d2] at m4
        cases m4
        refine ⟨b, m5, fun hb a ha => ?_, fun hb => ?_⟩
        · subst hb
          exact ⟨W0, H0, W', E', M', r, (PostS.step x p).dl⟩
        · subst hb
          exact p W' σ' H' x r l C o he
end
/-! facts from the head -/
section
variable {K : PySem.W.Frag} {mg : Str → Option Value} {h : Heap} {ct : List (Str × List Str)} {c d : Nat} {nm n1 n2 : Str} {C D : Addr} {b : Bool} {s1 s2 : List Str}
theorem excX_mk (X : K.In h) (G : h.Ns mainGlobals mg) (hc : ct[c]? = some (nm, [])) (a : PySem.W.nsIn K mainGlobals nm = some (some (.ref C))) (q : PySem.W.excIn K C veBase "ValueError.__new__" = true) (k : PySem.W.keepIn K (.ref C) = true)
    (s : PySem.W.subIn K (.ref C) (.type "BaseException") = some true) (t : PySem.W.typeIn K (.ref C) = some (.type "type")) : ExcX K mg ct c nm := ⟨C, hc, PySem.W.mg_of X G a, q, k, s, t⟩
theorem exm_of {K : PySem.W.Frag} {C D : Addr} {b : Bool} (h1 : PySem.W.subIn K (.ref D) (.type "BaseException") = some true) (h2 : PySem.W.isClsIn K D = true) (h3 : PySem.W.typeIn K (.ref D) = some (.type "type")) (h4 : PySem.W.subIn K (.ref C) (.ref D) = some b) :
    PySem.W.exmOne K (.ref C) (.ref D) = some b := by
  have e1 : (PySem.W.subIn K (.ref D) (.type "BaseException") == some true) = true := by rw [h1] <;> rfl
  have e2 : ((PySem.W.clsIn K D).isSome && PySem.W.typeIn K (.ref D) == some (.type "type")) = true := by
    have h2' : (PySem.W.clsIn K D).isSome = true := h2
    rw [h2', h3] <;> rfl
  show (if (PySem.W.subIn K (.ref D) (.type "BaseException") == some true) = true then (if ((PySem.W.clsIn K D).isSome && PySem.W.typeIn K (.ref D) == some (.type "type")) = true then PySem.W.subIn K (.ref C) (.ref D) else none) else none) = some b
  rw [if_pos e1, if_pos e2]
  exact h4
theorem exmX_mk (X : K.In h) (G : h.Ns mainGlobals mg) (hc : ct[c]? = some (n1, s1)) (hd : ct[d]? = some (n2, s2)) (a : PySem.W.nsIn K mainGlobals n1 = some (some (.ref C))) (a2 : PySem.W.nsIn K mainGlobals n2 = some (some (.ref D)))
    (h1 : PySem.W.subIn K (.ref D) (.type "BaseException") = some true) (h2 : PySem.W.isClsIn K D = true) (h3 : PySem.W.typeIn K (.ref D) = some (.type "type")) (h4 : PySem.W.subIn K (.ref C) (.ref D) = some b) : ExmX K mg ct c d b :=
  ⟨n1, s1, C, n2, s2, D, hc, hd, PySem.W.mg_of X G a, PySem.W.mg_of X G a2, exm_of h1 h2 h3 h4⟩
theorem ExcX.cls {K : PySem.W.Frag} (h : ExcX K mg ct c nm) : ∃ D ns, ct[c]? = some (nm, ns) ∧ mg nm = some (.ref D) := by
  obtain ⟨C, h1, h2, _⟩ := h.ex
  exact ⟨C, [], h1, h2⟩
theorem ExmX.cls {K : PySem.W.Frag} (h : ExmX K mg ct c d b) (e : (ct[d]?.map (·.1)) = some nm) : ∃ D ns, ct[d]? = some (nm, ns) ∧ mg nm = some (.ref D) := by
  obtain ⟨n1, s1, C, n2, s2, D, h1, h2, h3, h4, h5⟩ := h.ex
  rw [h2] at e
  cases e
  exact ⟨D, s2, h2, h4⟩
theorem exm_nil {K : PySem.W.Frag} : ∀ c b, tabM [] c = some b → ExmX K mg ct c d b := fun _ _ h => nomatch h
theorem exm_cons {K : PySem.W.Frag} {r : List (Nat × Bool)} (h : ExmX K mg ct c d b) (t : ∀ c b, tabM r c = some b → ExmX K mg ct c d b) : ∀ c' b', tabM ((c, b) :: r) c' = some b' → ExmX K mg ct c' d b' := fun c' b' q => by
  unfold tabM at q
  by_cases e : c' = c
  · rw [if_pos e] at q; cases q; subst e; exact h
  · rw [if_neg e] at q; exact t c' b' q
end
end J
namespace J
open PySem PySem.Spec L2
/-- {k: v}, k an int or a text -/
@[simp] def cDK1 (fk fv : CE) : CE := fun E M => (fk E M).bind fun k M => (fv E M).bind fun d M => match keyOf k with
  | some key => .ok (.dK [(key, d)]) M
  | none => .bad
section
variable {X : Cx} {ct : List (Str × List Str)} {Wx : WX} {pos : Pos}
theorem n_disp1K {ek ev : Expr} {fk fv : CE} (hk : PF X ct Wx ek fk) (hv : PF X ct Wx ev fv) : PNf X ct Wx (.Dict [some ek] [ev] pos) (cDK1 fk fv) := by
  refine PE.fin (pe_disp (pps_cons hk hv pps_nil) (by rfl) (by rfl) (fun z => nomatch z) (by simp)) ?_
  rintro σ H Q l ⟨W0, H0, W, E, M, rel, p⟩
  intro z hz
  have xa := Ext.new (o := .dK []) rel.toCRel hz
  have ra := rel.after xa (rel.toCRel.new hz)
  have la : LenOk (upd H z (.dK [])) := l.new hz (fun _ q => nomatch q) (fun _ q => nomatch q) fun _ _ q => nomatch q
  have as0 : Aside W σ E z := Aside.new rel hz
  refine ⟨W0, H0, W, E, M, ra, Post.bindU xa ra p fun d M1 W1 H1 v _ x1 rel1 r1 l1 p1 => ?_⟩
  refine ⟨W0, H0, W1, E, M1, rel1, Post.bindU (Ext.trans ra.toCRel xa x1) rel1 p1 fun d2 M2 W2 H2 v2 _ x2 rel2 r2 l2 p2 => ?_⟩
  clear p p1
  have e0 : upd H z (.dK []) z = some (.dK []) := upd_same
  have as1 := as0.mono x1 e0
  have e1 : H1 z = some (.dK []) := x1.keep z _ e0 as0.ph as0.z
  have as2 := as1.mono x2 e1
  have e2 : H2 z = some (.dK []) := x2.keep z _ e1 as1.ph as1.z
  have hc0 : CellOk (Gx X ct) W2 H2 z (.dK []) := ⟨[], e2, rfl, .nil⟩
  have z0 : H0 z = none := rel.toCRel.was rel.ext hz
  have go : ∀ key : Key, keyOf d = some key → v = kV key → (LenOk (upd H2 z (.dK [(key, v2)])) → Q (.ref z) (upd H2 z (.dK [(key, v2)]))) := by
    intro key qk ev l3
    rw [qk] at p2
    have xp := Ext0.put (o' := .dK [(key, v2)]) hc0 as2.z
    have rp := rel2.asideP (o' := .dK [(key, v2)]) z0 hc0 as2
    have xt : Ext W H W2 (upd H2 z (.dK [(key, v2)])) := by
      have xx := Ext.trans ra.toCRel xa (Ext.trans rel1.toCRel x1 x2)
      exact ⟨xx.toExt0.trans xp, xx.fr, xx.zn, fun b o h n1 n2 => by
        rw [upd_ne (fun q => by subst q; rw [hz] at h; cases h)]
        exact xx.keep b o h n1 n2⟩
    exact p2 _ _ _ xt rp ⟨z, .dK [(key, d2)], rfl, rfl, ⟨_, upd_same, rfl, .one (r2.mono xp)⟩, as2, hz⟩ l3
  cases r1 with
  | int i => exact ⟨e2, [(.inl i, v2)], rfl, by simp, go (.inl i) rfl rfl⟩
  | str x => exact ⟨e2, [(.inr x, v2)], rfl, by simp, go (.inr x) rfl rfl⟩
  | _ => exact p2.elim
end
end J
namespace J
open PySem PySem.Spec L2
/-! ### x op= e, of ints -/
@[simp] def sAug (i : Nat) (g : Int → Int → Option Int) (f : CE) : CS := fun E M => match E[i]? with
  | some (.sh (.int a)) => (f E M).st E fun d M => match d with
    | .int b => match g a b with
      | some c => .ok (.nx, E.set i (.sh (.int c))) M
      | none => .bad
    | _ => .bad
  | _ => .bad
@[simp] def jAdd (a b : Int) : Option Int := some (a + b)
@[simp] def jSub (a b : Int) : Option Int := some (a - b)
def jMul (a b : Int) : Option Int := if small64 a || small64 b then some (a * b) else none
/-- what an in-place rule asks of ints -/
def ipO (g : Int → Int → Option Int) : TIp := fun x y H Q => ∃ i j c, x = .int i ∧ y = .int j ∧ g i j = some c ∧ Q (.int c) H
section
variable {X : Cx} {ct : List (Str × List Str)} {Wx : WX} {e a b : Expr} {x y z : Str} {f f1 f2 : CE} {p p' pos : Pos} {op : Operator} {g : Int → Int → Option Int}
theorem ip_jAdd : PIp X .Add (ipO jAdd) := fun pins s σ H x y v u Q I r1 r2 ⟨i, j, c, e1, e2, e3, q⟩ => ip_add pins s σ H x y v u Q I r1 r2 ⟨i, j, e1, e2, by cases e3; exact q⟩
theorem ip_jSub : PIp X .Sub (ipO jSub) := fun pins s σ H x y v u Q I r1 r2 ⟨i, j, c, e1, e2, e3, q⟩ => ip_sub pins s σ H x y v u Q I r1 r2 ⟨i, j, e1, e2, by cases e3; exact q⟩
theorem ip_jMul : PIp X .Mult (ipO jMul) := by
  intro pins s σ H x y v u Q I r1 r2 h
  obtain ⟨i, j, c, e1, e2, e3, q⟩ := h
  subst e1; subst e2
  obtain ⟨t1, rfl⟩ := r1
  obtain ⟨t2, rfl⟩ := r2
  unfold jMul at e3
  split at e3
  · rename_i hz
    cases e3
    rw [Bool.or_eq_true] at hz
    have ok : CMul i j := hz.imp small64_ok small64_ok
    exact PySem.P.imul_int (Q := EP X pins σ Q) ⟨.int _, H, I.tok _, ⟨_, rfl⟩, q⟩ ok.ok
  · cases e3
theorem s_aug (i : Nat) (ho : PIp X op (ipO g)) (hN : X.N.Nodup) (he : PF X ct Wx e f) (hi : X.N[i]? = some x := by rfl) (hx : Loc X.env.scope x := by first | exact .inl rfl | exact .inr rfl) (hf : X.fn x = true ∨ X.env.scope.names.lookup x = some .local := by first | exact .inl rfl | exact .inr rfl | assumption) :
    PSf X ct Wx (.AugAssign (.Name x p) op e pos) (sAug i g f) := by
  refine PS_fin (ps_aug hN hi hx he ho hf) ?_
  rintro D σ H l ⟨W0, H0, W, E, M, rel, p⟩
  unfold sAug at p
  split at p
  · rename_i a ea
    obtain ⟨v, ev, rv⟩ := rel.slt i _ ea
    cases rv
    refine ⟨.int a, ev, W0, H0, W, E, M, rel, p.bindE fun d M1 W1 H1 v1 _ x1 rel1 r1 l1 p => ?_⟩
    cases r1 with
    | int b =>
      dsimp only at p
      cases q : g a b with
      | none => rw [q] at p; exact p.elim
      | some c =>
        rw [q] at p
        exact ⟨a, b, c, rfl, rfl, q, fun l' => p W1 _ H1 Ext0.refl (rel1.set i (.int c)) l1⟩
    | _ => exact p.elim
  · exact p.elim
/-! ### list(range(..)) -/
theorem rg_reps (G : Gm) (W : Wd) (H : Hp) (a b : Int) : Reps G W H (upFrom a (b - a).toNat) (rgV a b) := by
  have e : rgV a b = (List.range (b - a).toNat).map fun i : Nat => V.int (a + i) := rfl
  rw [e]
  have go : ∀ (n : Nat) (a : Int), Reps G W H (upFrom a n) ((List.range n).map fun i : Nat => V.int (a + i)) := by
    intro n
    induction n with
    | zero => intro a; exact .nil
    | succ n ih =>
      intro a
      rw [upFrom, List.range_succ_eq_map, List.map_cons, List.map_map]
      refine .cons ?_ ?_
      · rw [show a + ((0 : Nat) : Int) = a by simp]; exact .int a
      · have : ((fun i : Nat => V.int (a + i)) ∘ Nat.succ) = fun i : Nat => V.int (a + 1 + i) := by
          funext i
          show V.int (a + ((i + 1 : Nat) : Int)) = _
          congr 1
          push_cast
          omega
        rw [this]
        exact ih (a + 1)
  exact go _ _
@[simp] def cLRg (f : CE) : CE := fun E M => (f E M).bind fun d M => match d with
  | .int n => if n.natAbs ≤ sizeMax then .ok (.lst (upFrom 0 n.toNat)) M else .bad
  | _ => .bad
@[simp] def cLRg2 (f1 f2 : CE) : CE := fun E M => (f1 E M).bind fun d1 M => (f2 E M).bind fun d2 M => match d1, d2 with
  | .int a, .int b => if a.natAbs ≤ sizeMax ∧ b.natAbs ≤ sizeMax ∧ (b - a).toNat ≤ sizeMax then .ok (.lst (upFrom a (b - a).toNat)) M else .bad
  | _, _ => .bad
theorem n_lrg (hc : X.calm = true) (hm : X.mg "list" = none) (hr : X.mg "range" = none) (h : PF X ct Wx a f) (hg : Gl X "list" := by rfl) (hgr : Gl X "range" := by rfl) (na : starEach [a] X.env = (false, eval a X.env) :: starEach [] X.env := by rfl)
    (nl : starEach [.Call (.Name "range" p) [a] [] pos] X.env = (false, eval (.Call (.Name "range" p) [a] [] pos) X.env) :: starEach [] X.env := by rfl) {pos2 : Pos} :
    PNf X ct Wx (.Call (.Name "list" p') [.Call (.Name "range" p) [a] [] pos] [] pos2) (cLRg f) := by
  refine PE.fin (pe_listRg hc hg hm (prg_1 hgr hr h na) nl) ?_
  rintro σ H Q l ⟨W0, H0, W, E, M, rel, p⟩
  refine ⟨W0, H0, W, E, M, rel, Post.bind p fun d1 M1 W1 H1 v1 _ x1 rel1 p1 l1 p => ?_⟩
  cases p1 with
  | int n =>
    dsimp only at p
    by_cases c : n.natAbs ≤ sizeMax
    · rw [if_pos c] at p
      unfold sizeMax at c
      refine ⟨n, rfl, ⟨by omega, by omega, by omega, by omega, by omega⟩, fun q hq l' => ?_⟩
      have x := Ext.new (o := .lst (rgV 0 n)) rel1.toCRel hq
      have e : (n - 0).toNat = n.toNat := by omega
      have rr := rg_reps (Gx X ct) W1 (upd H1 q (.lst (rgV 0 n))) 0 n
      rw [e] at rr
      exact p W1 _ _ x (rel1.after x (rel1.toCRel.new hq)) ⟨q, .lst (upFrom 0 n.toNat), rfl, rfl, ⟨_, upd_same, rr⟩, Aside.new rel1 hq, rel1.toCRel.was x1 hq⟩ l'
    · rw [if_neg c] at p; exact p.elim
  | _ => exact p.elim
theorem n_lrg2 (hc : X.calm = true) (hm : X.mg "list" = none) (hr : X.mg "range" = none) (h : PF X ct Wx a f1) (h2 : PF X ct Wx b f2) (hg : Gl X "list" := by rfl) (hgr : Gl X "range" := by rfl) (na : starEach [a, b] X.env = (false, eval a X.env) :: starEach [b] X.env := by rfl)
    (nb : starEach [b] X.env = (false, eval b X.env) :: starEach [] X.env := by rfl) (hp : (backTo pos (starEach [b] X.env)).any (·.1) = false := by rfl)
    (nl : starEach [.Call (.Name "range" p) [a, b] [] pos] X.env = (false, eval (.Call (.Name "range" p) [a, b] [] pos) X.env) :: starEach [] X.env := by rfl) {pos2 : Pos} :
    PNf X ct Wx (.Call (.Name "list" p') [.Call (.Name "range" p) [a, b] [] pos] [] pos2) (cLRg2 f1 f2) := by
  refine PE.fin (pe_listRg hc hg hm (prg_2 hgr hr h h2 na nb hp) nl) ?_
  rintro σ H Q l ⟨W0, H0, W, E, M, rel, p⟩
  refine ⟨W0, H0, W, E, M, rel, Post.bind p fun d1 M1 W1 H1 v1 _ x1 rel1 p1 l1 p => ?_⟩
  refine ⟨W0, H0, W1, E, M1, rel1, Post.bind p fun d2 M2 W2 H2 v2 _ x2 rel2 p2 l2 p => ?_⟩
  have p1' := p1.mono x2.toExt0
  cases p1' with
  | int a =>
    cases p2 with
    | int b =>
      dsimp only at p
      by_cases c : a.natAbs ≤ sizeMax ∧ b.natAbs ≤ sizeMax ∧ (b - a).toNat ≤ sizeMax
      · rw [if_pos c] at p
        unfold sizeMax at c
        refine ⟨a, b, rfl, rfl, ⟨by omega, by omega, by omega, by omega, by omega⟩, fun q hq l' => ?_⟩
        have x := Ext.new (o := .lst (rgV a b)) rel2.toCRel hq
        exact p W2 _ _ x (rel2.after x (rel2.toCRel.new hq)) ⟨q, .lst (upFrom a (b - a).toNat), rfl, rfl, ⟨_, upd_same, rg_reps _ _ _ _ _⟩, Aside.new rel2 hq, rel1.toCRel.was x1 (rel2.toCRel.was x2 hq)⟩ l'
      · rw [if_neg c] at p; exact p.elim
    | _ => exact p.elim
  | _ => exact p.elim
/-! ### isinstance(x, (S, T)) -/
def gIsI2 (m n : String) (d : D) : Option D := (isI m d).bind fun a => (isI n d).map fun b => .bl (a || b)
theorem pf_isi2 {m n : String} {k : Nat} {tpos : Pos} (hn1 : m ∈ tyNames) (hn2 : n ∈ tyNames) (hm : X.mg "isinstance" = none) (hy : X.mg y = none) (hv : bootBuiltins y = some (.type m)) (hz : X.mg z = none) (hw : bootBuiltins z = some (.type n)) (ha : POf X ct Wx a f) (hg : Gl X "isinstance" := by rfl) (hgy : Gl X y := by rfl) (hny : y ≠ "__name__" := by decide) (hdy : (y == ("__debug__" : Str)) = false := by decide)
    (hgz : Gl X z := by rfl) (hnz : z ≠ "__name__" := by decide) (hdz : (z == ("__debug__" : Str)) = false := by decide) {q1 q2 : Pos}
    (hst : starEach [.Name y q1, .Name z q2] X.env = (false, eval (.Name y q1) X.env) :: starEach [.Name z q2] X.env := by rfl)
    (he : starEach [a, .Tuple [.Name y q1, .Name z q2] k tpos] X.env = (false, eval a X.env) :: starEach [.Tuple [.Name y q1, .Name z q2] k tpos] X.env := by rfl) (hpl : (backTo pos (starEach [.Tuple [.Name y q1, .Name z q2] k tpos] X.env)).any (·.1) = false := by rfl) :
    PF X ct Wx (.Call (.Name "isinstance" p) [a, .Tuple [.Name y q1, .Name z q2] k tpos] [] pos) (c1 (gIsI2 m n) f) := by
  refine PE.fin (pe_callB call_isiT hg hm (by decide +kernel) (pa_cons ha (pa_cons (pe_tup (pa_cons (pe_bltn (v := .ty m) hgy hy hv rfl hny hdy) (pa_cons (pe_bltn (v := .ty n) hgz hz hw rfl hnz hdz) pa_nil) hst)) pa_nil) he) (by decide) (by decide) he hpl) ?_
  rintro σ H Q l ⟨W0, H0, W, E, M, rel, p⟩
  refine ⟨W0, H0, W, E, M, rel, Post.bind p fun d1 M1 W1 H1 v1 _ x1 rel1 p1 l1 p => ?_⟩
  refine ⟨by show 2 ≤ sizeLine; decide, fun tp htp => ?_⟩
  cases q : gIsI2 m n (view M1 d1) with
  | none => rw [q] at p; exact p.elim
  | some d =>
    rw [q] at p
    unfold gIsI2 isI at q
    rw [Option.bind_eq_some_iff] at q
    obtain ⟨b1, k1, q⟩ := q
    rw [Option.map_eq_some_iff] at q
    obtain ⟨b2, k2, rfl⟩ := q
    rw [Option.map_eq_some_iff] at k1 k2
    obtain ⟨ty, t1, rfl⟩ := k1
    obtain ⟨ty2, t2, rfl⟩ := k2
    rw [t1] at t2
    cases t2
    have x := Ext.new (o := .tup [.ty m, .ty n]) rel1.toCRel htp
    have rel2 := rel1.after x (rel1.toCRel.new htp)
    have l2 : LenOk (upd H1 tp (.tup [.ty m, .ty n])) := l1.new htp (fun _ q => nomatch q) (fun _ q => by cases q; show 2 ≤ sizeLine; decide) fun _ _ q => nomatch q
    refine ⟨v1, tp, [.ty m, .ty n], .type ty, [.type m, .type n], subTy ty m || subTy ty n, rfl, upd_same, .cons (.ty m) (.cons (.ty n) .nil), ?_, ?_, fun l'' => p W1 _ _ x rel2 (.bl _) l2⟩
    · exact seen_ty rel2 (p1.mono x.toExt0) t1
    · refine kitAny_cons (kit_ty (kit_at (tyD_mem t1) hn1)) (fun h => ?_) fun h => by rw [h]; rfl
      rw [h, Bool.false_or]
      exact kitAny_cons (kit_ty (kit_at (tyD_mem t1) hn2)) (fun h2 => by rw [h2]; rfl) fun h2 => h2
end
end J
namespace J
open PySem PySem.Spec L2 PyProof.Rows
/-! ### {k: v for ..}, the keys tuples -/
def compDT (vs : List Nat) (g : CG) (t : CT) (fk fv : CE) : List D → List (List Key × D) → Env → Mem → R (List (List Key × D))
  | [], acc, _, M => .ok acc M
  | d :: ds, acc, E, M => match g d (J.wipe E vs) with
    | none => .bad
    | some E1 => (t E1 M).nox.bind fun b M => if b = true then (fk E1 M).nox.bind fun k M => (fv E1 M).nox.bind fun x M => match k with
        | .tup ks => match keysOf ks with
          | some key => if acc.length < sizeMax then compDT vs g t fk fv ds (put acc key x) E M else .bad
          | none => .bad
        | _ => .bad
      else compDT vs g t fk fv ds acc E M
@[simp] def cDCompT (vs : List Nat) (it : CA) (g : CG) (t : CT) (fk fv : CE) : CE := fun E M => (it E M).bind fun ds M => (compDT vs g t fk fv ds [] E M).bind fun kvs M => .ok (.dT kvs) M
/-- a store under a tuple, by the comprehension -/
theorem d_storeT {Y : Cx} {pn : List (Addr × Obj)} {τ : L2.St} {Ha : Hp} {sa : Shared} {Ea : Value → Shared → Prop} {dd q : Addr} {es : List (List Key × V)} {ky : List Key} {y : V} {uy : Value} {Qa : Unit → Shared → Prop} (hu : Y.A.units + 1 < cLine) (J0 : Inv Y pn τ Ha sa) (h1 : Ha dd = some (.dT es)) (h2 : es.length < sizeLine)
    (h3 : Ha q = some (.tup (ky.map kV))) (ry : RelV y uy) (nx : ∀ sb, Inv Y pn τ (upd Ha dd (.dT (putK es ky y))) sb → Qa () sb) : wpAny (model Y.prog Y.w) Y.A (dictSet dd (.ref q) uy) Qa Ea sa := by
  obtain ⟨n1, n2, xs, rel, n3⟩ := dt_of J0.hok h1
  have m1 : xs.length ≤ sizeLine := by rw [← Paired.length rel]; exact n1
  have m2 : (putK es ky y).length ≤ sizeLine := by have := length_putK es ky y; omega
  refine wpAny_dictSet_heap (hsz := m1) (knd := tupleKind (mixKind Y.prog Y.w)) (Nat.lt_of_succ_lt hu) (key_of J0.hok h3) n3 fun hb db hs => nx _ ?_
  obtain ⟨o, ents, ep, g1, g2, g3, g4, _, g5⟩ := db
  refine d_write J0 (by rw [h1]; exact True.intro) hs ⟨o, g1⟩ ⟨m2, n2, _, (rel.put ky h3 ry).keeps fun c ys ec => ?_, o, ents, ep, g1, g2, g3, g4, g5⟩
  rw [upd_ne (ne_of ec h1 (fun z => nomatch z))]
  exact ec
/-- what is asked of it -/
def tDcT (wi : TI) (g : TG) (tt : TT) (tk tv : TE) (own : List Nat) : TE := fun σ H Q => wi σ H fun Ji Ha => ∀ dd, Ha dd = none → ∃ W : Nat → Nat → Hp → Prop, (∃ m, W 0 m (upd Ha dd (.dT []))) ∧ ∀ i m Hb, W i m Hb →
  (Ji.stop i Hb ∧ Q (.ref dd) Hb) ∨ (Ji.go i Hb ∧ ∃ Nx : Hp → Prop, (∀ Hc, Nx Hc → ∃ m', m' < m ∧ W (i + 1) m' Hc) ∧ ∀ x Hc, Ji.yld i Hb x Hc → g x (L2.wipe σ own) Hc fun τ Hd => L2.wipe τ own = L2.wipe σ own ∧ tt τ Hd fun b He =>
    if b = true then tk τ He fun y Hf => tv τ Hf fun z Hg => ∃ es q ky, y = .ref q ∧ Hg q = some (.tup (ky.map kV)) ∧ Hg dd = some (.dT es) ∧ es.length < sizeLine ∧ Nx (upd Hg dd (.dT (putK es ky z))) else Nx He)
section
variable {X : Cx}
theorem dcT_core {pn : List (Addr × Obj)} {sa : Shared} {σ : L2.St} {Ha : Hp} {Q : VK} {kx vx tg iter : Expr} {ifs : List Expr} {sc : Scope} {own : List (Str × Nat)} {pos pos' : Pos} {wi : TI} {g : TG} {tt : TT} {tk tv : TE} {Qf : Value → Shared → Prop}
    (hu : X.A.units + 1 < cLine) (hc : X.calm = true) (hN : X.N.Nodup) (Ia : Inv X pn σ Ha sa) (hi : PI X tg iter wi) (ok : BlkOk X.N X.env.scope sc own)
    (hg : ∀ (sa : Shared) (Ha : Hp) (C : Addr) (cl : List (Str × Addr)) (fq : List Addr), PG (X.blk sa Ha sc (compEnvC sc cl C X.env) fq) tg g)
    (ht : ∀ (sa : Shared) (Ha : Hp) (C : Addr) (cl : List (Str × Addr)) (fq : List Addr), PTs (X.blk sa Ha sc (compEnvC sc cl C X.env) fq) ifs tt)
    (hk : ∀ (sa : Shared) (Ha : Hp) (C : Addr) (cl : List (Str × Addr)) (fq : List Addr), PE (X.blk sa Ha sc (compEnvC sc cl C X.env) fq) kx tk)
    (hv : ∀ (sa : Shared) (Ha : Hp) (C : Addr) (cl : List (Str × Addr)) (fq : List Addr), PE (X.blk sa Ha sc (compEnvC sc cl C X.env) fq) vx tv) (hf : ∀ x, foldedSetIterable iter X.env x = pure x)
    (w : tDcT wi g tt tk tv (own.map (·.2)) σ Ha Q)
    (fin0 : ∀ dd C sb m Hb, Inv X pn σ Hb sb → Q (.ref dd) Hb → sb.heap.Ns C m → FpOk X pn Hb C → compPost (model X.prog X.w) X.A X.xe none Qf (.ref dd) C (.ok .next) sb) :
    wpAny (model X.prog X.w) X.A (comprehension (.DictComp kx vx [⟨tg, iter, ifs, 0⟩] sc pos) sc X.env pos' newDict false (eval iter X.env) none) Qf X.xe sa := by
  have fr : ∀ y ∈ sc.names, y.2 = .free → ∃ c, X.env.cells.lookup y.1 = some c := fun y hy e => by
    rcases ok.free y hy e with k | k
    · exact Ia.ok.has _ (.inl k)
    · exact Ia.ok.has _ (.inr k)
  refine wpAny_comprehension_free (use := none) rfl hf (closure_ok fr) ok.kind (fun y hy e => by rw [ok.uniq y hy, e])
    (thn (hi.run pn sa σ Ha _ Ia w) fun xv sb hx => thn hx fun itv sc2 h2 => ?_)
  obtain ⟨it, fq, tn, Ji, Hb, rfl, Ib, T, stb, fqb, w⟩ := h2
  refine wpAny_newObj_type (newEnv_comp ?_)
  generalize hdd : sc2.heap.objs.size = dd
  have nD : Hb dd = none := Ib.hok.fresh (Nat.le_of_eq hdd)
  obtain ⟨W, ⟨m0, w0⟩, turn⟩ := w dd nD
  generalize hsd : ({ sc2 with heap := sc2.heap.push { cls := .type "dict", data := .dict #[] } } : Shared) = sd
  have Id : Inv X pn σ (upd Hb dd (.dT [])) sd := by
    rw [← hsd]
    refine Ib.laid (t' := sc2.toks) (fun b o e => Heap.get?_push_of_some _ e) (Nat.le_of_eq hdd) ?_
    rw [← hdd]
    exact dt_empty sc2.heap Ib.big
  have hd : sd.heap = sc2.heap.push { cls := .type "dict", data := .dict #[] } := by rw [← hsd]
  have small : ∀ b ∈ fq, b < sc2.heap.objs.size := fun b hb => by
    obtain ⟨o, e, _⟩ := T.obj _ _ stb b hb
    exact Heap.lt_size e
  have fd : ∀ b ∈ fq, FpOk X pn (upd Hb dd (.dT [])) b ∧ b < sd.heap.objs.size := fun b hb => by
    have lt := small b hb
    refine ⟨⟨?_, (fqb b hb).2⟩, by rw [hd, Heap.size_push]; exact Nat.lt_succ_of_lt lt⟩
    rw [upd_ne (by rw [← hdd]; exact Nat.ne_of_lt lt)]
    exact (fqb b hb).1
  have std : tn 0 sd.heap := T.keep _ _ _ stb fun b _ o e => by rw [hd]; exact Heap.get?_push_of_some _ e
  have Ie := block_start Id ok hN fd
  have pg := hg sd (upd Hb dd (.dT [])) sd.heap.objs.size (cellsFrom (sd.heap.objs.size + 1) sc.names (cloFrom X.env.cells sc.names [])) fq
  have pt := ht sd (upd Hb dd (.dT [])) sd.heap.objs.size (cellsFrom (sd.heap.objs.size + 1) sc.names (cloFrom X.env.cells sc.names [])) fq
  have pk := hk sd (upd Hb dd (.dT [])) sd.heap.objs.size (cellsFrom (sd.heap.objs.size + 1) sc.names (cloFrom X.env.cells sc.names [])) fq
  have pv' := hv sd (upd Hb dd (.dT [])) sd.heap.objs.size (cellsFrom (sd.heap.objs.size + 1) sc.names (cloFrom X.env.cells sc.names [])) fq
  show codeAny _ _ (.compStart (.DictComp kx vx [⟨tg, iter, ifs, 0⟩] sc pos) 0 (.ref it) (.ref dd) (compEnvC sc (cellsFrom (sd.heap.objs.size + 1) sc.names (cloFrom X.env.cells sc.names [])) sd.heap.objs.size X.env)) (compPost (model X.prog X.w) X.A X.xe none Qf (.ref dd) sd.heap.objs.size) { sd with heap := pushCells (sd.heap.push { cls := .type "dict", data := .dict #[] }) sc.names }
  have nfq : ∀ b ∈ fq, (upd Hb dd (.dT [])) b = none := fun b hb => (fd b hb).1.1
  generalize hcz : compEnvC sc (cellsFrom (sd.heap.objs.size + 1) sc.names (cloFrom X.env.cells sc.names [])) sd.heap.objs.size X.env = cz at Ie pg pt pk pv' ⊢
  have czL : cz.locals = sd.heap.objs.size := by subst hcz; rfl
  generalize hHd : upd Hb dd (.dT []) = Hd at Id Ie pg pt pk pv' w0 nfq fd
  generalize hse : ({ sd with heap := pushCells (sd.heap.push { cls := .type "dict", data := .dict #[] }) sc.names } : Shared) = se at Ie ⊢
  have ste : tn 0 se.heap := T.keep _ _ _ std fun b _ o e => by rw [← hse]; exact pushCells_keeps _ _ _ _ (Heap.get?_push_of_some _ e)
  have fpo : ∀ {τ : L2.St} {Hx : Hp} {sx : Shared}, Inv (X.blk sd Hd sc cz fq) [] τ Hx sx → (∀ b ∈ fq, Hx b = none) → ∀ b ∈ fq, FpOk (X.blk sd Hd sc cz fq) [] Hx b := fun {τ Hx sx} Ix hn b hb =>
    ⟨hn b hb, (Ix.ok.exf b hb).1, Ix.ok.exfs b hb, .inl hb, fun x c e => (Ix.ok.exf b hb).2 x c e, fun p hp => absurd (show p ∈ ([] : List (Addr × Obj)) ++ [] from hp) (by simp)⟩
  have run : codeAny (model X.prog X.w) X.A (.compLoop (.DictComp kx vx [⟨tg, iter, ifs, 0⟩] sc pos) 0 (.ref it) (.ref dd) cz) (compPost (model X.prog X.w) X.A X.xe none Qf (.ref dd) sd.heap.objs.size) se := by
    refine compLoop_anyD (fun n sx => ∃ i Hx, Inv (X.blk sd Hd sc cz fq) [] (L2.wipe σ (own.map (·.2))) Hx sx ∧ tn i sx.heap ∧ (∀ b ∈ fq, Hx b = none) ∧ W i n Hx) ?_ m0 ⟨0, Hd, Ie, ste, nfq, w0⟩
    rintro n sf ⟨i, Hf, If, stf, nf, wf⟩
    rcases turn i n Hf wf with ⟨stop, qq⟩ | ⟨go, Nx, toNx, step⟩
    · have td := T.done (X.blk sd Hd sc cz fq) rfl rfl rfl hc i [] sf _ Hf (fun _ _ => False) If (fpo If nf) stf stop
      refine thnF td fun r sg ⟨hr, Ig⟩ => ?_
      subst hr
      have Iz : Inv X pn σ Hf sg := Id.call' (ch := fq) Ig.os Ig.base Ig.hok Ig.bare fun b hb => ⟨(fd b hb).1.2.2.2.1, (fd b hb).1.2.1, (fd b hb).1.2.2.2.2.1, (fd b hb).1.2.2.2.2.2⟩
      have nC : Hf sd.heap.objs.size = none := by
        have z : Hf cz.locals = none := Ig.free
        rw [czL] at z
        exact z
      obtain ⟨mm, hns, _⟩ := Ig.loc
      have hns : sg.heap.Ns cz.locals mm := hns
      rw [czL] at hns
      exact fin0 dd sd.heap.objs.size sg mm Hf Iz qq hns (Id.fpOk (Nat.le_refl _) nC)
    · have ti := T.item (X.blk sd Hd sc cz fq) rfl rfl rfl hc i [] sf _ Hf (fun _ _ => False) If (fpo If nf) stf go
      refine thnF ti fun r sg ⟨u, hr, hg6⟩ => ?_
      subst hr
      refine thnF hg6 fun _ sh ⟨x, Hh, Ih, rh, yh, sth, nh⟩ => ?_
      have Ih' := Ih.pinned (fpo Ih nh) (T.obj _ _ sth)
      refine thnF (pg.run _ sh _ Hh x u _ Ih' rh (step x Hh yh)) fun _ sj ⟨τ, Hj, Ij, hwj, qj⟩ => ?_
      refine thnF (pt.run _ sj τ Hj _ Ij qj) fun b sk ⟨Hk, Ik, qk⟩ => ?_
      have done_ : ∀ {sx : Shared} {Hx : Hp}, Inv (X.blk sd Hd sc cz fq) ([] ++ pinsAt fq sh.heap) τ Hx sx → Nx Hx → ∃ m, m < n ∧ ∃ i Hx, Inv (X.blk sd Hd sc cz fq) [] (L2.wipe σ (own.map (·.2))) Hx sx ∧ tn i sx.heap ∧ (∀ b ∈ fq, Hx b = none) ∧ W i m Hx := fun {sx Hx} Ix nx => by
        obtain ⟨m', hm, w'⟩ := toNx Hx nx
        have pin' : ∀ b ∈ fq, ∀ o, sh.heap.get? b = some o → sx.heap.get? b = some o ∧ Hx b = none := fun b hb o e =>
          let z := Ix.pin (b, o) (List.mem_append_right _ (List.mem_append_right _ (mem_pinsAt hb e)))
          ⟨z.1, z.2.1⟩
        have ln : (L2.wipe σ (own.map (·.2))).length = τ.length := by rw [← hwj, wipe_length]
        refine ⟨m', hm, i + 1, Hx, (Ix.unpinned (pins := [])).weak ln (fun j v e => ?_), T.keep _ _ _ sth fun b hb o e => (pin' b hb o e).1, fun b hb => ?_, w'⟩
        · rw [← hwj] at e
          exact (wipe_some e).1
        · obtain ⟨o, e, _⟩ := T.obj _ _ sth b hb
          exact (pin' b hb o e).2
      cases b with
      | false =>
        simp only [Bool.false_eq_true, if_false] at qk ⊢
        exact done_ Ik qk
      | true =>
        simp only [if_true] at qk ⊢
        refine thnF (pk.run _ sk τ Hk _ Ik qk) fun z sl ⟨yk, Hl, Il, rl, ql⟩ => ?_
        refine thnF (pv'.run _ sl τ Hl _ Il ql) fun z2 sm ⟨yv, Hm, Im, rm, es, q, ky, ek, hq, hdm, hz, nx⟩ => ?_
        subst ek
        obtain rfl : z = Value.ref q := rl
        exact d_storeT (Y := X.blk sd Hd sc cz fq) hu Im hdm hz hq rm fun sn In => done_ In nx
  exact codeAny_compStart_dict run (T.self X.A 0 _ _ _ ste run)
end
section
variable {X : Cx} {ct : List (Str × List Str)} {Wx : WX} {tg iter kx vx : Expr} {ifs : List Expr} {it : CA} {t : CT} {fk fv : CE} {pos : Pos}
theorem pe_dcT {sc : Scope} {own : List (Str × Nat)} {wi : TI} {g : TG} {tt : TT} {tk tv : TE} (hu : X.A.units + 1 < cLine) (hc : X.calm = true) (hN : X.N.Nodup) (hi : PI X tg iter wi) (ok : BlkOk X.N X.env.scope sc own)
    (hg : ∀ (sa : Shared) (Ha : Hp) (C : Addr) (cl : List (Str × Addr)) (fq : List Addr), PG (X.blk sa Ha sc (compEnvC sc cl C X.env) fq) tg g)
    (ht : ∀ (sa : Shared) (Ha : Hp) (C : Addr) (cl : List (Str × Addr)) (fq : List Addr), PTs (X.blk sa Ha sc (compEnvC sc cl C X.env) fq) ifs tt)
    (hk : ∀ (sa : Shared) (Ha : Hp) (C : Addr) (cl : List (Str × Addr)) (fq : List Addr), PE (X.blk sa Ha sc (compEnvC sc cl C X.env) fq) kx tk)
    (hv : ∀ (sa : Shared) (Ha : Hp) (C : Addr) (cl : List (Str × Addr)) (fq : List Addr), PE (X.blk sa Ha sc (compEnvC sc cl C X.env) fq) vx tv) (hf : ∀ x, foldedSetIterable iter X.env x = pure x := by intro _; rfl) :
    PE X (.DictComp kx vx [⟨tg, iter, ifs, 0⟩] sc pos) (tDcT wi g tt tk tv (own.map (·.2))) := by
  refine ⟨fun pn sa σ Ha Q I w => ?_⟩
  rw [arm_eval_DictComp]
  refine dcT_core hu hc hN I hi ok hg ht hk hv hf w fun dd C sb m Hb I' q hn fo => ⟨m, hn, fun h2 sb2 => ?_⟩
  obtain ⟨a0, a1, a2, a3, a4, a5⟩ := fo
  exact ⟨.ref dd, Hb, I'.turned (t' := sb.toks) (fun b o hb e => (sb2.2 b hb).trans e) a0 a1 a3 a4 a5, rfl, q⟩
theorem dcT_run {W0 W1 : Wd} {H0 H1 : Hp} {σ : L2.St} {E : Env} {M1 : Mem} {ds : List D} {Jt : It} {gt : TG} {gg : CG} {is vs : List Nat} {Q : VK} {Hs : Hp}
    (hs0 : ∀ a, H1 a = none → Hs a = none) (rel1 : Rel (Gx X ct) W0 H0 W1 σ H1 E M1) (l1 : LenOk H1) (it : IterOk (Gx X ct) W1 H1 ds Jt) (hg : ∀ W0 H0 W σ H E M d v E' (Q : L2.St → Hp → Prop), Rel (Gx X ct) W0 H0 W σ H E M → Rep (Gx X ct) W H d v → gg d E = some E' →
      (∀ σ', Rel (Gx X ct) W0 H0 W σ' H E' M → (∀ vs, (∀ i ∈ is, i ∈ vs) → L2.wipe σ' vs = L2.wipe σ vs) → Q σ' H) → gt v σ H Q) (his : ∀ i ∈ is, i ∈ vs)
    (p : Post (Gx X ct) Wx (RpN (Gx X ct) σ E Hs) W0 H0 W1 H1 σ E ((compDT vs gg t fk fv ds [] E M1).bind fun kvs M => .ok (.dT kvs) M) Q) :
    ∀ dd, H1 dd = none → ∃ W : Nat → Nat → Hp → Prop, (∃ m, W 0 m (upd H1 dd (.dT []))) ∧ ∀ i m Hb, W i m Hb →
      (Jt.stop i Hb ∧ Q (.ref dd) Hb) ∨ (Jt.go i Hb ∧ ∃ Nx : Hp → Prop, (∀ Hc, Nx Hc → ∃ m', m' < m ∧ W (i + 1) m' Hc) ∧ ∀ x Hc, Jt.yld i Hb x Hc → gt x (L2.wipe σ vs) Hc fun τ Hd => L2.wipe τ vs = L2.wipe σ vs ∧ tT (Gx X ct) Wx t τ Hd fun b He =>
        if b = true then tF (Gx X ct) Wx fk τ He fun y Hf => tF (Gx X ct) Wx fv τ Hf fun z Hg => ∃ es q ky, y = .ref q ∧ Hg q = some (.tup (ky.map kV)) ∧ Hg dd = some (.dT es) ∧ es.length < sizeLine ∧ Nx (upd Hg dd (.dT (putK es ky z))) else Nx He) := by
  intro dd hD
  let Pv : Nat → Hp → Prop := fun i H' => ∃ W' M' acc, Rel (Gx X ct) W0 H0 W' σ H' E M' ∧ Ext W1 H1 W' H' ∧ CellOk (Gx X ct) W' H' dd (.dT acc) ∧ Aside W' σ E dd ∧ LenOk H' ∧
    compDT vs gg t fk fv ds [] E M1 = compDT vs gg t fk fv (ds.drop i) acc E M'
  have hD0 : H0 dd = none := rel1.toCRel.was rel1.ext hD
  refine ⟨fun i m H => m = ds.length - i ∧ i ≤ ds.length ∧ Pv i H, ⟨ds.length, by simp, Nat.zero_le _, ?_⟩, ?_⟩
  · have x := Ext.new (o := .dT []) rel1.toCRel hD
    exact ⟨W1, M1, [], rel1.after x (rel1.toCRel.new hD), x, ⟨[], upd_same, rfl, .nil⟩, Aside.new rel1 hD, l1.new hD (fun _ q => nomatch q) (fun _ q => nomatch q) (fun _ _ q => nomatch q), by rw [List.drop_zero]⟩
  · rintro i m H ⟨rfl, hi, W', M', acc, rel, x, hDl, asd, l, eq⟩
    obtain ⟨go, stop⟩ := it W' H M' x.toExt0 rel.toCRel l i hi
    by_cases hlt : i < ds.length
    · refine .inr ⟨(go ds[i] (by simp [hlt])).1, Pv (i + 1), fun H' p' => ⟨ds.length - (i + 1), by omega, rfl, hlt, p'⟩, fun xv H' hy => ?_⟩
      obtain ⟨W2, x2, c2, rep2, l2⟩ := (go ds[i] (by simp [hlt])).2 xv H' hy
      have rel2 := rel.after x2 c2
      have hdrop : ds.drop i = ds[i] :: ds.drop (i + 1) := by rw [← List.getElem_cons_drop hlt]
      rw [hdrop, compDT] at eq
      cases hgd : gg ds[i] (J.wipe E vs) with
      | none => rw [hgd] at eq; rw [eq] at p; exact False.elim p
      | some E1 =>
        rw [hgd] at eq
        dsimp only at eq
        refine hg W0 H0 W2 (L2.wipe σ vs) H' (J.wipe E vs) M' _ _ E1 _ (rel2.wipe vs) rep2 hgd fun σ2 rel3 hw => ?_
        have hw2 : L2.wipe σ2 vs = L2.wipe σ vs := by rw [hw vs his]; exact wipe_wipe σ vs
        refine ⟨hw2, W0, H0, W2, E1, M', rel3, ?_⟩
        cases ht : t E1 M' with
        | bad => rw [ht] at eq; rw [eq] at p; exact False.elim p
        | exc c cs m => rw [ht] at eq; rw [eq] at p; exact False.elim p
        | ok b M2 =>
          rw [ht] at eq
          try dsimp only [R.nox, R.bind] at eq
          intro W3 H3 b' x3 rel4 eb l3
          cases eb
          have rel4' : Rel (Gx X ct) W0 H0 W3 σ H3 E M2 := rel2.after x3 rel4.toCRel
          obtain ⟨o1, ho1⟩ := hDl.isS
          have c2' : CellOk (Gx X ct) W2 H' dd (.dT acc) := hDl.mono x2.toExt0 fun o e => x2.keep dd o e asd.ph asd.z
          obtain ⟨o2, ho2⟩ := c2'.isS
          have asd2 := asd.mono x2 ho1
          have c3' : CellOk (Gx X ct) W3 H3 dd (.dT acc) := c2'.mono x3.toExt0 fun o e => x3.keep dd o e asd2.ph asd2.z
          obtain ⟨o3, ho3⟩ := c3'.isS
          have asd3 := asd2.mono x3 ho2
          have x13 : Ext W1 H1 W3 H3 := Ext.trans rel2.toCRel (Ext.trans rel.toCRel x x2) x3
          cases b with
          | false => exact iteF ⟨W3, M2, acc, rel4', x13, c3', asd3, l3, eq⟩
          | true =>
            refine iteT ⟨W0, H0, W3, E1, M2, rel4, ?_⟩
            try dsimp only at eq
            rw [if_pos rfl] at eq
            cases hfk : fk E1 M2 with
            | bad => rw [hfk] at eq; rw [eq] at p; exact False.elim p
            | exc c cs m => rw [hfk] at eq; rw [eq] at p; exact False.elim p
            | ok dk M3 =>
              rw [hfk] at eq
              try dsimp only [R.nox, R.bind] at eq
              intro W4 H4 y x4 rel5 rep4 l4
              have rel5' : Rel (Gx X ct) W0 H0 W4 σ H4 E M3 := rel4'.after x4 rel5.toCRel
              have c4' : CellOk (Gx X ct) W4 H4 dd (.dT acc) := c3'.mono x4.toExt0 fun o e => x4.keep dd o e asd3.ph asd3.z
              obtain ⟨o4, ho4⟩ := c4'.isS
              have asd4 := asd3.mono x4 ho3
              have x14 : Ext W1 H1 W4 H4 := Ext.trans rel4'.toCRel x13 x4
              refine ⟨W0, H0, W4, E1, M3, rel5, ?_⟩
              cases hfv : fv E1 M3 with
              | bad => rw [hfv] at eq; rw [eq] at p; exact False.elim p
              | exc c cs m => rw [hfv] at eq; rw [eq] at p; exact False.elim p
              | ok dv M4 =>
                rw [hfv] at eq
                try dsimp only [R.nox, R.bind] at eq
                intro W5 H5 z x5 rel6 rep5 l5
                have rel6' : Rel (Gx X ct) W0 H0 W5 σ H5 E M4 := rel5'.after x5 rel6.toCRel
                have c5' : CellOk (Gx X ct) W5 H5 dd (.dT acc) := c4'.mono x5.toExt0 fun o e => x5.keep dd o e asd4.ph asd4.z
                have asd5 := asd4.mono x5 ho4
                have x15 : Ext W1 H1 W5 H5 := Ext.trans rel5'.toCRel x14 x5
                have rep4' := rep4.mono x5.toExt0
                cases rep4' with
                | @tup q us ks hq rq =>
                  dsimp only at eq
                  cases qk : keysOf ks with
                  | none => rw [qk] at eq; rw [eq] at p; exact False.elim p
                  | some key =>
                    rw [qk] at eq
                    dsimp only at eq
                    by_cases hz : acc.length < sizeMax
                    · rw [if_pos hz] at eq
                      obtain ⟨es, e1, e2, e3⟩ := id c5'
                      have le : es.length = acc.length := by
                        have := congrArg List.length e2
                        simpa using this
                      obtain ⟨p1, p2⟩ := reps_put rep5 (k := key) e2 e3
                      have xp := Ext0.put (o' := .dT (putK es key z)) c5' asd5.z
                      refine ⟨es, q, key, rfl, by rw [← reps_keys rq qk]; exact hq, e1, by rw [le]; exact hz, W5, M4, put acc key dv, rel6'.asideP hD0 c5' asd5, ⟨x15.toExt0.trans xp, x15.fr, x15.zn, fun b o h n1 n2 => ?_⟩, ⟨_, upd_same, p1, p2.mono xp⟩, asd5, l5.upd (fun _ z => nomatch z) (fun _ z => nomatch z) (fun _ _ z => nomatch z), eq⟩
                      rw [upd_ne (fun z => by subst z; rw [hD] at h; cases h)]
                      exact x15.keep b o h n1 n2
                    · rw [if_neg hz] at eq; rw [eq] at p; exact False.elim p
                | _ => dsimp only at eq; rw [eq] at p; exact False.elim p
    · have e : i = ds.length := by omega
      subst e
      rw [List.drop_length] at eq
      refine .inl ⟨stop rfl, ?_⟩
      rw [eq] at p
      dsimp only [compDT, R.bind] at p
      exact p _ _ _ x rel ⟨dd, .dT acc, rfl, rfl, hDl, asd, hs0 dd hD⟩ l
theorem n_dcompT {sc : Scope} {is : List Nat} {own : List (Str × Nat)} {gg : CG} {gt : TG} (hu : X.A.units + 1 < cLine) (hc : X.calm = true) (hN : X.N.Nodup) (hi : PIf X ct Wx tg iter it) (ok : BlkOk X.N X.env.scope sc own)
    (hg : ∀ (sa : Shared) (Ha : Hp) (C : Addr) (cl : List (Str × Addr)) (fq : List Addr), PGf (X.blk sa Ha sc (compEnvC sc cl C X.env) fq) ct tg is gt gg)
    (ht : ∀ (sa : Shared) (Ha : Hp) (C : Addr) (cl : List (Str × Addr)) (fq : List Addr), PTsf (X.blk sa Ha sc (compEnvC sc cl C X.env) fq) ct Wx ifs t)
    (hk : ∀ (sa : Shared) (Ha : Hp) (C : Addr) (cl : List (Str × Addr)) (fq : List Addr), PF (X.blk sa Ha sc (compEnvC sc cl C X.env) fq) ct Wx kx fk)
    (hv : ∀ (sa : Shared) (Ha : Hp) (C : Addr) (cl : List (Str × Addr)) (fq : List Addr), PF (X.blk sa Ha sc (compEnvC sc cl C X.env) fq) ct Wx vx fv) (his : ∀ i ∈ is, i ∈ own.map (·.2) := by decide) (hf : ∀ x, foldedSetIterable iter X.env x = pure x := by intro _; rfl) :
    PNf X ct Wx (.DictComp kx vx [⟨tg, iter, ifs, 0⟩] sc pos) (cDCompT (own.map (·.2)) it gg t fk fv) := by
  have h := pe_dcT (pos := pos) (tt := tT (Gx X ct) Wx t) (tk := tF (Gx X ct) Wx fk) (tv := tF (Gx X ct) Wx fv) hu hc hN hi ok (fun sa Ha C cl fq => (hg sa Ha C cl fq).1) ht hk hv hf
  refine ⟨fun pins s σ H Q I p => h.run pins s σ H Q I ?_⟩
  obtain ⟨W0, H0, W, E, M, rel, p⟩ := p
  refine ⟨W0, H0, W, E, M, rel, Post.bind p fun ds M1 W1 H1 J1 _ x1 rel1 p1 l1 p => ?_⟩
  exact fun dd hD => dcT_run (X := X) (fun a h => rel1.toCRel.was x1 h) rel1 l1 p1.1 (hg s H 0 [] []).2 his p dd hD
end
end J
namespace J
open PySem PySem.Spec L2
/-! ### [f for .. in .. for .. in ..] -/
def compL2 (vs vs1 : List Nat) (g : CG) (t : CT) (it1 : CA) (g1 : CG) (t1 : CT) (f : CE) : List D → List D → CA
  | [], acc, _, M => .ok acc M
  | d :: ds, acc, E, M => match g d (J.wipe E vs) with
    | none => .bad
    | some E1 => (t E1 M).nox.bind fun b M => if b = true then (it1 E1 M).nox.bind fun is M => if acc.length + is.length ≤ sizeMax then (compL vs1 g1 t1 f is E1 M).bind fun xs M => compL2 vs vs1 g t it1 g1 t1 f ds (acc ++ xs) E M else .bad
      else compL2 vs vs1 g t it1 g1 t1 f ds acc E M
@[simp] def cComp2 (vs vs1 : List Nat) (it : CA) (g : CG) (t : CT) (it1 : CA) (g1 : CG) (t1 : CT) (f : CE) : CE := fun E M => (it E M).bind fun ds M => (compL2 vs vs1 g t it1 g1 t1 f ds [] E M).bind fun ds M => .ok (.lst ds) M
/-- a target makes no slot its own -/
def OwnK (g : CG) : Prop := ∀ (d : D) (E E1 : Env) (i : Nat) (c : Cell), g d E = some E1 → E1[i]? = some (.ow c) → E[i]? = some (.ow c)
theorem ownK_n (i : Nat) : OwnK (gN i) := fun d E E1 j c h q => by
  cases h
  by_cases e : i = j
  · subst e
    by_cases hl : i < E.length
    · rw [List.getElem?_set_self hl] at q; cases q
    · rw [List.getElem?_eq_none (by rw [List.length_set]; omega)] at q; cases q
  · rwa [List.getElem?_set_ne e] at q
def OwnKs (gs : List CG) : Prop := ∀ (ds : List D) (E E1 : Env) (i : Nat) (c : Cell), gsN gs ds E = some E1 → E1[i]? = some (.ow c) → E[i]? = some (.ow c)
theorem ownKs_n : OwnKs [] := fun ds E E1 i c h q => by
  cases ds with
  | nil => cases h; exact q
  | cons _ _ => cases h
theorem ownKs_c {g : CG} {gs : List CG} (a : OwnK g) (b : OwnKs gs) : OwnKs (g :: gs) := fun ds E E1 i c h q => by
  cases ds with
  | nil => cases h
  | cons d ds =>
    rw [gsN, Option.bind_eq_some_iff] at h
    obtain ⟨E2, h1, h2⟩ := h
    exact a d E E2 i c h1 (b ds E2 E1 i c h2 q)
theorem ownK_t {gs : List CG} (b : OwnKs gs) : OwnK (gT gs) := fun d E E1 i c h q => by
  cases d with
  | tup ds => exact b ds E E1 i c h q
  | _ => cases h
theorem wipeE_out {i : Nat} : ∀ {vs : List Nat} {E : Env} {c : Cell}, (J.wipe E vs)[i]? = some (.ow c) → i ∉ vs ∧ E[i]? = some (.ow c)
  | [], E, c, h => ⟨fun q => (nomatch q), h⟩
  | v :: vs, E, c, h => by
    unfold J.wipe at h
    by_cases e : v = i
    · subst e
      by_cases hl : v < (J.wipe E vs).length
      · rw [List.getElem?_set_self hl] at h; cases h
      · rw [List.getElem?_eq_none (by rw [List.length_set]; omega)] at h; cases h
    · rw [List.getElem?_set_ne e] at h
      obtain ⟨h1, h2⟩ := wipeE_out h
      exact ⟨fun q => by
        rcases List.mem_cons.mp q with z | z
        · exact e z.symm
        · exact h1 z, h2⟩
section
variable {X : Cx} {ct : List (Str × List Str)} {Wx : WX} {tg iter tg1 iter1 elt : Expr} {ifs ifs1 : List Expr} {it it1 : CA} {t t1 : CT} {f : CE} {pos p p' : Pos} {y : Str}
theorem comp2_run {W0 W1 : Wd} {H0 H1 : Hp} {σ : L2.St} {E : Env} {M1 : Mem} {ds : List D} {Jt : It} {gt gt1 : TG} {gg gg1 : CG} {is is1 vs vs1 : List Nat} {Q : VK} {Hs : Hp}
    (hs0 : ∀ a, H1 a = none → Hs a = none) (rel1 : Rel (Gx X ct) W0 H0 W1 σ H1 E M1) (l1 : LenOk H1) (it : IterOk (Gx X ct) W1 H1 ds Jt) (hg : ∀ W0 H0 W σ H E M d v E' (Q : L2.St → Hp → Prop), Rel (Gx X ct) W0 H0 W σ H E M → Rep (Gx X ct) W H d v → gg d E = some E' →
      (∀ σ', Rel (Gx X ct) W0 H0 W σ' H E' M → (∀ vs, (∀ i ∈ is, i ∈ vs) → L2.wipe σ' vs = L2.wipe σ vs) → Q σ' H) → gt v σ H Q) (his : ∀ i ∈ is, i ∈ vs) (hok : OwnK gg)
    (hg1 : ∀ W0 H0 W σ H E M d v E' (Q : L2.St → Hp → Prop), Rel (Gx X ct) W0 H0 W σ H E M → Rep (Gx X ct) W H d v → gg1 d E = some E' →
      (∀ σ', Rel (Gx X ct) W0 H0 W σ' H E' M → (∀ vs, (∀ i ∈ is1, i ∈ vs) → L2.wipe σ' vs = L2.wipe σ vs) → Q σ' H) → gt1 v σ H Q) (his1 : ∀ i ∈ is1, i ∈ vs1)
    (p : Post (Gx X ct) Wx (RpN (Gx X ct) σ E Hs) W0 H0 W1 H1 σ E ((compL2 vs vs1 gg t it1 gg1 t1 f ds [] E M1).bind fun ds M => .ok (.lst ds) M) Q) :
    ∀ dd, H1 dd = none → ∃ W : Nat → Nat → Hp → Prop, (∃ m, W 0 m (upd H1 dd (.lst []))) ∧ ∀ i m Hb, W i m Hb →
      (Jt.stop i Hb ∧ Q (.ref dd) Hb) ∨ (Jt.go i Hb ∧ ∃ Nx : Hp → Prop, (∀ Hc, Nx Hc → ∃ m', m' < m ∧ W (i + 1) m' Hc) ∧ ∀ x Hc, Jt.yld i Hb x Hc → gt x (L2.wipe σ vs) Hc fun τ Hd => L2.wipe τ vs = L2.wipe σ vs ∧ tT (Gx X ct) Wx t τ Hd fun b He =>
        if b = true then tI (Gx X ct) Wx it1 τ He fun J1 Hf => ∃ V1 : Nat → Nat → Hp → Prop, (∃ m, V1 0 m Hf) ∧ ∀ j k Hg, V1 j k Hg →
          (J1.stop j Hg ∧ Nx Hg) ∨ (J1.go j Hg ∧ ∃ Ny : Hp → Prop, (∀ Hh, Ny Hh → ∃ k', k' < k ∧ V1 (j + 1) k' Hh) ∧ ∀ x Hh, J1.yld j Hg x Hh → gt1 x (L2.wipe τ vs1) Hh fun υ Hi => L2.wipe υ vs1 = L2.wipe τ vs1 ∧ tT (Gx X ct) Wx t1 υ Hi fun b Hj =>
            if b = true then tF (Gx X ct) Wx f υ Hj fun y Hk => ∃ acc, Hk dd = some (.lst acc) ∧ acc.length < sizeLine ∧ Ny (upd Hk dd (.lst (acc ++ [y]))) else Ny Hj)
        else Nx He) := by
  intro dd hD
  let Pv : Nat → Hp → Prop := fun i H' => ∃ W' M' acc es, Rel (Gx X ct) W0 H0 W' σ H' E M' ∧ Ext W1 H1 W' H' ∧ H' dd = some (.lst acc) ∧ Aside W' σ E dd ∧ Reps (Gx X ct) W' H' es acc ∧ LenOk H' ∧
    compL2 vs vs1 gg t it1 gg1 t1 f ds [] E M1 = compL2 vs vs1 gg t it1 gg1 t1 f (ds.drop i) es E M'
  have hD0 : H0 dd = none := rel1.toCRel.was rel1.ext hD
  refine ⟨fun i m H => m = ds.length - i ∧ i ≤ ds.length ∧ Pv i H, ⟨ds.length, by simp, Nat.zero_le _, ?_⟩, ?_⟩
  · have x := Ext.new (o := .lst []) rel1.toCRel hD
    exact ⟨W1, M1, [], [], rel1.after x (rel1.toCRel.new hD), x, upd_same, Aside.new rel1 hD, .nil, l1.new hD (fun _ q => by cases q; exact Nat.zero_le _) (fun _ q => nomatch q) (fun _ _ q => nomatch q), by rw [List.drop_zero]⟩
  · rintro i m H ⟨rfl, hi, W', M', acc, es, rel, x, hDl, asd, reps, l, eq⟩
    obtain ⟨go, stop⟩ := it W' H M' x.toExt0 rel.toCRel l i hi
    by_cases hlt : i < ds.length
    · refine .inr ⟨(go ds[i] (by simp [hlt])).1, Pv (i + 1), fun H' p' => ⟨ds.length - (i + 1), by omega, rfl, hlt, p'⟩, fun xv H' hy => ?_⟩
      obtain ⟨W2, x2, c2, rep2, l2⟩ := (go ds[i] (by simp [hlt])).2 xv H' hy
      have rel2 := rel.after x2 c2
      have hdrop : ds.drop i = ds[i] :: ds.drop (i + 1) := by rw [← List.getElem_cons_drop hlt]
      rw [hdrop, compL2] at eq
      cases hgd : gg ds[i] (J.wipe E vs) with
      | none => rw [hgd] at eq; rw [eq] at p; exact False.elim p
      | some E1 =>
        rw [hgd] at eq
        dsimp only at eq
        refine hg W0 H0 W2 (L2.wipe σ vs) H' (J.wipe E vs) M' _ _ E1 _ (rel2.wipe vs) rep2 hgd fun σ2 rel3 hw => ?_
        have hw2 : L2.wipe σ2 vs = L2.wipe σ vs := by rw [hw vs his]; exact wipe_wipe σ vs
        refine ⟨hw2, W0, H0, W2, E1, M', rel3, ?_⟩
        cases ht : t E1 M' with
        | bad => rw [ht] at eq; rw [eq] at p; exact False.elim p
        | exc c cs m => rw [ht] at eq; rw [eq] at p; exact False.elim p
        | ok b M2 =>
          rw [ht] at eq
          try dsimp only [R.nox, R.bind] at eq
          intro W3 H3 b' x3 rel4 eb l3
          cases eb
          have rel4' : Rel (Gx X ct) W0 H0 W3 σ H3 E M2 := rel2.after x3 rel4.toCRel
          have hD2 : H' dd = some (.lst acc) := x2.keep dd _ hDl asd.ph asd.z
          have asd2 := asd.mono x2 hDl
          have hD3 : H3 dd = some (.lst acc) := x3.keep dd _ hD2 asd2.ph asd2.z
          have asd3 := asd2.mono x3 hD2
          have x13 : Ext W1 H1 W3 H3 := Ext.trans rel2.toCRel (Ext.trans rel.toCRel x x2) x3
          have reps3 := (reps.mono x2.toExt0).mono x3.toExt0
          cases b with
          | false => exact iteF ⟨W3, M2, acc, es, rel4', x13, hD3, asd3, reps3, l3, eq⟩
          | true =>
            refine iteT ⟨W0, H0, W3, E1, M2, rel4, ?_⟩
            try dsimp only at eq
            rw [if_pos rfl] at eq
            cases hI : it1 E1 M2 with
            | bad => rw [hI] at eq; rw [eq] at p; exact False.elim p
            | exc c cs m => rw [hI] at eq; rw [eq] at p; exact False.elim p
            | ok es1 M3 =>
              rw [hI] at eq
              try dsimp only [R.nox, R.bind] at eq
              intro W4 H4 J1 x4 rel5 pJ l4
              obtain ⟨itJ, hz1⟩ := pJ
              have rel5' : Rel (Gx X ct) W0 H0 W4 σ H4 E M3 := rel4'.after x4 rel5.toCRel
              have hD4 : H4 dd = some (.lst acc) := x4.keep dd _ hD3 asd3.ph asd3.z
              have asd4 := asd3.mono x4 hD3
              have x14 : Ext W1 H1 W4 H4 := Ext.trans rel4'.toCRel x13 x4
              have reps4 := reps3.mono x4.toExt0
              by_cases hsz : es.length + es1.length ≤ sizeMax
              · rw [if_pos hsz] at eq
                let Pi : Nat → Hp → Prop := fun j H' => ∃ W' M' acc' es', Rel (Gx X ct) W0 H0 W' σ2 H' E1 M' ∧ Rel (Gx X ct) W0 H0 W' σ H' E M' ∧ Ext W1 H1 W' H' ∧ Ext0 W4 H4 W' H' ∧ H' dd = some (.lst acc') ∧ Aside W' σ E dd ∧ Aside W' σ2 E1 dd ∧ Reps (Gx X ct) W' H' es' acc' ∧ acc'.length ≤ es.length + j ∧ LenOk H' ∧
                  compL2 vs vs1 gg t it1 gg1 t1 f ds [] E M1 = (compL vs1 gg1 t1 f (es1.drop j) E1 M').bind fun xs M => compL2 vs vs1 gg t it1 gg1 t1 f (ds.drop (i + 1)) (es' ++ xs) E M
                have asdE : Aside W4 σ2 E1 dd := by
                  refine ⟨asd4.ph, asd4.z, fun i c hs q => ?_⟩
                  obtain ⟨n, e0⟩ := wipeE_out (hok _ _ _ _ _ hgd hs)
                  refine asd4.ow i c e0 ?_
                  rw [← wipe_out (σ := σ) n, ← hw2, wipe_out n]; exact q
                refine ⟨fun j k H => k = es1.length - j ∧ j ≤ es1.length ∧ Pi j H, ⟨es1.length, by simp, Nat.zero_le _, ?_⟩, ?_⟩
                · refine ⟨W4, M3, acc, es, rel5, rel5', x14, Ext0.refl, hD4, asd4, asdE, reps4, by rw [← reps4.length]; exact Nat.le_refl _, l4, ?_⟩
                  rw [List.drop_zero]; exact eq
                · rintro j k Hg ⟨rfl, hj, W5, M5, acc5, es5, relA, relB, x15, x45, hD5, asd5, asd5b, reps5, hlen5, l5, eq5⟩
                  obtain ⟨go1, stop1⟩ := itJ W5 Hg M5 x45 relA.toCRel l5 j hj
                  by_cases hlt1 : j < es1.length
                  · refine .inr ⟨(go1 es1[j] (by simp [hlt1])).1, Pi (j + 1), fun H' p' => ⟨es1.length - (j + 1), by omega, rfl, hlt1, p'⟩, fun xv H6 hy => ?_⟩
                    obtain ⟨W6, x6, c6, rep6, l6⟩ := (go1 es1[j] (by simp [hlt1])).2 xv H6 hy
                    have relA6 := relA.after x6 c6
                    have relB6 := relB.after x6 c6
                    have hdrop1 : es1.drop j = es1[j] :: es1.drop (j + 1) := by rw [← List.getElem_cons_drop hlt1]
                    rw [hdrop1, compL] at eq5
                    cases hgd1 : gg1 es1[j] (J.wipe E1 vs1) with
                    | none => rw [hgd1] at eq5; rw [eq5] at p; exact False.elim p
                    | some E2 =>
                      rw [hgd1] at eq5
                      dsimp only at eq5
                      refine hg1 W0 H0 W6 (L2.wipe σ2 vs1) H6 (J.wipe E1 vs1) M5 _ _ E2 _ (relA6.wipe vs1) rep6 hgd1 fun σ3 rel7 hw7 => ?_
                      have hw8 : L2.wipe σ3 vs1 = L2.wipe σ2 vs1 := by rw [hw7 vs1 his1]; exact wipe_wipe σ2 vs1
                      refine ⟨hw8, W0, H0, W6, E2, M5, rel7, ?_⟩
                      cases ht1 : t1 E2 M5 with
                      | bad => rw [ht1] at eq5; rw [eq5] at p; exact False.elim p
                      | exc c cs m => rw [ht1] at eq5; rw [eq5] at p; exact False.elim p
                      | ok b M7 =>
                        rw [ht1] at eq5
                        try dsimp only [R.nox, R.bind] at eq5
                        intro W7 H7 b' x7 rel8 eb l7
                        cases eb
                        have relA7 := relA6.after x7 rel8.toCRel
                        have relB7 := relB6.after x7 rel8.toCRel
                        have hD6 : H6 dd = some (.lst acc5) := x6.keep dd _ hD5 asd5.ph asd5.z
                        have asd6 := asd5.mono x6 hD5
                        have asd6b := asd5b.mono x6 hD5
                        have hD7 : H7 dd = some (.lst acc5) := x7.keep dd _ hD6 asd6.ph asd6.z
                        have asd7 := asd6.mono x7 hD6
                        have asd7b := asd6b.mono x7 hD6
                        have x17 : Ext W1 H1 W7 H7 := Ext.trans relA6.toCRel (Ext.trans relA.toCRel x15 x6) x7
                        have x47 : Ext0 W4 H4 W7 H7 := (x45.trans x6.toExt0).trans x7.toExt0
                        have reps7 := (reps5.mono x6.toExt0).mono x7.toExt0
                        cases b with
                        | false =>
                          refine iteF ⟨W7, M7, acc5, es5, relA7, relB7, x17, x47, hD7, asd7, asd7b, reps7, Nat.le_succ_of_le hlen5, l7, ?_⟩
                          rw [eq5]; rfl
                        | true =>
                          refine iteT ⟨W0, H0, W7, E2, M7, rel8, ?_⟩
                          try dsimp only at eq5
                          rw [if_pos rfl] at eq5
                          cases hf : f E2 M7 with
                          | bad => rw [hf] at eq5; rw [eq5] at p; exact False.elim p
                          | exc c cs m => rw [hf] at eq5; rw [eq5] at p; exact False.elim p
                          | ok d3 M8 =>
                            rw [hf] at eq5
                            try dsimp only [R.nox, R.bind] at eq5
                            intro W8 H8 yv x8 rel9 rep9 l8
                            have relA8 := relA7.after x8 rel9.toCRel
                            have relB8 := relB7.after x8 rel9.toCRel
                            have hD8 : H8 dd = some (.lst acc5) := x8.keep dd _ hD7 asd7.ph asd7.z
                            have asd8 := asd7.mono x8 hD7
                            have asd8b := asd7b.mono x8 hD7
                            have x18 : Ext W1 H1 W8 H8 := Ext.trans relA7.toCRel x17 x8
                            have x48 : Ext0 W4 H4 W8 H8 := x47.trans x8.toExt0
                            have hlen2 : acc5.length < sizeLine := by
                              have : sizeMax = sizeLine := rfl
                              omega
                            have x0 := Ext0.aside (W := W8) (ys := acc5 ++ [yv]) hD8 asd8.z
                            refine ⟨acc5, hD8, hlen2, W8, M8, acc5 ++ [yv], es5 ++ [d3], relA8.aside hD0 hD8 asd8b, relB8.aside hD0 hD8 asd8, Ext.aside relB8.toCRel x18 hD rel1.zs hD8 asd8.z, x48.trans x0, upd_same, asd8, asd8b, ((reps7.mono x8.toExt0).append (.cons rep9 .nil)).mono x0, by rw [List.length_append]; simp; omega, l8.put (by rw [List.length_append]; exact hlen2), ?_⟩
                            rw [eq5]
                            cases compL vs1 gg1 t1 f (List.drop (j + 1) es1) E1 M8 <;> simp
                  · have e : j = es1.length := by omega
                    subst e
                    rw [List.drop_length] at eq5
                    refine .inl ⟨stop1 rfl, W5, M5, acc5, es5, relB, x15, hD5, asd5, reps5, l5, ?_⟩
                    rw [eq5]
                    simp [compL]
              · rw [if_neg hsz] at eq; rw [eq] at p; exact False.elim p
    · have e : i = ds.length := by omega
      subst e
      rw [List.drop_length] at eq
      refine .inl ⟨stop rfl, ?_⟩
      rw [eq] at p
      dsimp only [compL2, R.bind] at p
      exact p _ _ _ x rel ⟨dd, .lst es, rfl, rfl, ⟨acc, hDl, reps⟩, asd, hs0 dd hD⟩ l
theorem tLc2_of {is is1 vs vs1 : List Nat} {gg gg1 : CG} {gt gt1 : TG} {σ : L2.St} {H : Hp} {Q : VK} (hg : ∀ W0 H0 W σ H E M d v E' (Q : L2.St → Hp → Prop), Rel (Gx X ct) W0 H0 W σ H E M → Rep (Gx X ct) W H d v → gg d E = some E' →
      (∀ σ', Rel (Gx X ct) W0 H0 W σ' H E' M → (∀ vs, (∀ i ∈ is, i ∈ vs) → L2.wipe σ' vs = L2.wipe σ vs) → Q σ' H) → gt v σ H Q) (his : ∀ i ∈ is, i ∈ vs) (hok : OwnK gg)
    (hg1 : ∀ W0 H0 W σ H E M d v E' (Q : L2.St → Hp → Prop), Rel (Gx X ct) W0 H0 W σ H E M → Rep (Gx X ct) W H d v → gg1 d E = some E' →
      (∀ σ', Rel (Gx X ct) W0 H0 W σ' H E' M → (∀ vs, (∀ i ∈ is1, i ∈ vs) → L2.wipe σ' vs = L2.wipe σ vs) → Q σ' H) → gt1 v σ H Q) (his1 : ∀ i ∈ is1, i ∈ vs1)
    (p : tN (Gx X ct) Wx (cComp2 vs vs1 it gg t it1 gg1 t1 f) σ H Q) : tLc2 (tI (Gx X ct) Wx it) gt (tT (Gx X ct) Wx t) (tI (Gx X ct) Wx it1) gt1 (tT (Gx X ct) Wx t1) (tF (Gx X ct) Wx f) vs vs1 σ H Q := by
  obtain ⟨W0, H0, W, E, M, rel, p⟩ := p
  refine ⟨W0, H0, W, E, M, rel, Post.bind p fun ds M1 W1 H1 J1 _ x1 rel1 p1 l1 p => ?_⟩
  exact fun dd hD => comp2_run (X := X) (fun a h => rel1.toCRel.was x1 h) rel1 l1 p1.1 hg his hok hg1 his1 p dd hD
theorem n_comp2 {scope : Scope} {is is1 vs1 : List Nat} {own : List (Str × Nat)} {gg gg1 : CG} {gt gt1 : TG} (hc : X.calm = true) (hN : X.N.Nodup) (hok : OwnK gg) (hi : PIf X ct Wx tg iter it) (ok : BlkOk X.N X.env.scope scope own)
    (hg : ∀ (s : Shared) (H : Hp) (C : Addr) (cl : List (Str × Addr)) (fp : List Addr), PGf (X.blk s H scope (compEnvC scope cl C X.env) fp) ct tg is gt gg)
    (ht : ∀ (s : Shared) (H : Hp) (C : Addr) (cl : List (Str × Addr)) (fp : List Addr), PTsf (X.blk s H scope (compEnvC scope cl C X.env) fp) ct Wx ifs t)
    (hi1 : ∀ (s : Shared) (H : Hp) (C : Addr) (cl : List (Str × Addr)) (fp : List Addr), PIf (X.blk s H scope (compEnvC scope cl C X.env) fp) ct Wx tg1 iter1 it1)
    (hg1 : ∀ (s : Shared) (H : Hp) (C : Addr) (cl : List (Str × Addr)) (fp : List Addr), PGf (X.blk s H scope (compEnvC scope cl C X.env) fp) ct tg1 is1 gt1 gg1)
    (ht1 : ∀ (s : Shared) (H : Hp) (C : Addr) (cl : List (Str × Addr)) (fp : List Addr), PTsf (X.blk s H scope (compEnvC scope cl C X.env) fp) ct Wx ifs1 t1)
    (he : ∀ (s : Shared) (H : Hp) (C : Addr) (cl : List (Str × Addr)) (fp : List Addr), PF (X.blk s H scope (compEnvC scope cl C X.env) fp) ct Wx elt f) (hv : ∀ i ∈ vs1, i ∈ own.map (·.2) := by decide) (his : ∀ i ∈ is, i ∈ own.map (·.2) := by decide) (his1 : ∀ i ∈ is1, i ∈ vs1 := by decide)
    (hs : ∀ x, foldedSetIterable iter X.env x = pure x := by intro _; rfl) (hs1 : ∀ env x, foldedSetIterable iter1 env x = pure x := by intro _ _; rfl) :
    PNf X ct Wx (.ListComp elt [⟨tg, iter, ifs, 0⟩, ⟨tg1, iter1, ifs1, 0⟩] scope pos) (cComp2 (own.map (·.2)) vs1 it gg t it1 gg1 t1 f) := by
  have h := pe_lc2 (pos := pos) (wi1 := tI (Gx X ct) Wx it1) (tt := tT (Gx X ct) Wx t) (tt1 := tT (Gx X ct) Wx t1) (te := tF (Gx X ct) Wx f) hc hN hi ok hv (fun s H C cl fp => (hg s H C cl fp).1) ht hi1 (fun s H C cl fp => (hg1 s H C cl fp).1) ht1 he hs hs1
  exact ⟨fun pins s σ H Q I p => h.run pins s σ H Q I (tLc2_of (X := X) (hg s H 0 [] []).2 his hok (hg1 s H 0 [] []).2 his1 p)⟩
theorem s_setLc2 {scope : Scope} {is is1 vs1 : List Nat} {own : List (Str × Nat)} {gg gg1 : CG} {gt gt1 : TG} (i : Nat) (hc : X.calm = true) (hN : X.N.Nodup) (hsw : swapsWith (.ListComp elt [⟨tg, iter, ifs, 0⟩, ⟨tg1, iter1, ifs1, 0⟩] scope pos) (some (.Name y p)) p'.line X.env = pure true) (hok : OwnK gg) (hi : PIf X ct Wx tg iter it) (ok : BlkOk X.N X.env.scope scope own)
    (hg : ∀ (s : Shared) (H : Hp) (C : Addr) (cl : List (Str × Addr)) (fp : List Addr), PGf (X.blk s H scope (compEnvC scope cl C X.env) fp) ct tg is gt gg)
    (ht : ∀ (s : Shared) (H : Hp) (C : Addr) (cl : List (Str × Addr)) (fp : List Addr), PTsf (X.blk s H scope (compEnvC scope cl C X.env) fp) ct Wx ifs t)
    (hi1 : ∀ (s : Shared) (H : Hp) (C : Addr) (cl : List (Str × Addr)) (fp : List Addr), PIf (X.blk s H scope (compEnvC scope cl C X.env) fp) ct Wx tg1 iter1 it1)
    (hg1 : ∀ (s : Shared) (H : Hp) (C : Addr) (cl : List (Str × Addr)) (fp : List Addr), PGf (X.blk s H scope (compEnvC scope cl C X.env) fp) ct tg1 is1 gt1 gg1)
    (ht1 : ∀ (s : Shared) (H : Hp) (C : Addr) (cl : List (Str × Addr)) (fp : List Addr), PTsf (X.blk s H scope (compEnvC scope cl C X.env) fp) ct Wx ifs1 t1)
    (he : ∀ (s : Shared) (H : Hp) (C : Addr) (cl : List (Str × Addr)) (fp : List Addr), PF (X.blk s H scope (compEnvC scope cl C X.env) fp) ct Wx elt f) (hv : ∀ i ∈ vs1, i ∈ own.map (·.2) := by decide) (his : ∀ i ∈ is, i ∈ own.map (·.2) := by decide) (his1 : ∀ i ∈ is1, i ∈ vs1 := by decide)
    (hy : X.N[i]? = some y := by rfl) (hyl : X.env.scope.names.lookup y = some .local := by rfl) (hs : ∀ x, foldedSetIterable iter X.env x = pure x := by intro _; rfl) (hs1 : ∀ env x, foldedSetIterable iter1 env x = pure x := by intro _ _; rfl) :
    PSf X ct Wx (.Assign [.Name y p] (.ListComp elt [⟨tg, iter, ifs, 0⟩, ⟨tg1, iter1, ifs1, 0⟩] scope pos) p') (sAsg (gN i) (cComp2 (own.map (·.2)) vs1 it gg t it1 gg1 t1 f)) := by
  have h := ps_setLc2 (wi1 := tI (Gx X ct) Wx it1) (spos := p') (py := p) (pos := pos) (tt := tT (Gx X ct) Wx t) (tt1 := tT (Gx X ct) Wx t1) (te := tF (Gx X ct) Wx f) hc hN hy hyl hsw hi ok hv (fun s H C cl fp => (hg s H C cl fp).1) ht hi1 (fun s H C cl fp => (hg1 s H C cl fp).1) ht1 he hs hs1
  refine ⟨fun pins s σ H D I q => thn (h.run pins s σ H (Dl D) I ?_) fun _ _ q => SP.dl q⟩
  obtain ⟨W0, H0, W, E, M, rel, p⟩ := q
  refine tLc2_of (X := X) (hg s H 0 [] []).2 his hok (hg1 s H 0 [] []).2 his1 ⟨W0, H0, W, E, M, rel, PostS.bindD p fun d M1 W1 H1 v _ x1 rel1 r1 l1 p => ?_⟩
  exact asg_endN i rel rel1 r1 l1 p
end
end J
namespace J
open PySem PySem.Spec L2
/-! ### pop, get, clear, and what a cell that is a dict answers -/
/-- tg = r.pop() -/
@[simp] def sPop (g : CG) (r : CR) : CS := fun E M => (r E M).stG E fun k M => match k.get E M with
  | some (.lst ds) => match ds[ds.length - 1]? with
    | some d => match g d (k.putE (.lst ds.dropLast) E) with
      | some E1 => .ok (.nx, E1) (k.putM (.lst ds.dropLast) M)
      | none => .bad
    | none => .bad
  | _ => .bad
@[simp] def kClr : Cell → Option Cell
  | .dT _ => some (.dT [])
  | _ => none
/-- r.clear(), a dict whose keys are tuples -/
@[simp] def sClr (r : CR) : CS := fun E M => (r E M).stG E fun k M => upK k ((k.get E M).bind kClr) E M
/-- isinstance(x, dict), len(x): x a cell -/
@[simp] def cIsDT (f : CE) : CE := fun E M => (f E M).bind fun d M => match d with
  | .loc l => match M[l]? with
    | some (.dT _) => .ok (.bl true) M
    | _ => .bad
  | _ => .bad
@[simp] def cLenT (f : CE) : CE := fun E M => (f E M).bind fun d M => match d with
  | .loc l => match M[l]? with
    | some (.dT kvs) => .ok (.int kvs.length) M
    | _ => .bad
  | _ => .bad
def isDic : D → Bool
  | .dK _ => true
  | .dT _ => true
  | _ => false
def gGet : D → D → Option D
  | .dK kvs, k => (keyOf k).map fun j => (look kvs j).getD .non
  | .dT kvs, .tup ds => (keysOf ds).map fun ks => (look kvs ks).getD .non
  | _, _ => none
/-- o.get(e) -/
@[simp] def cGet (f1 f2 : CE) : CE := fun E M => (f1 E M).bind fun d M => if isDic (view M d) = true then (f2 E M).bind fun k M => match gGet (view M d) (view M k) with
  | some x => .ok x M
  | none => .bad
  else .bad
theorem d_clearT {X : Cx} {pins : List (Addr × Obj)} {σ : L2.St} {H : Hp} {s : Shared} {a : Addr} {kvs : List (List Key × V)} {A : Around} {E : Value → Shared → Prop} {Q : Value → Shared → Prop} (I : Inv X pins σ H s) (e : H a = some (.dT kvs)) (h : ∀ s', Inv X pins σ (upd H a (.dT [])) s' → Q .none s') : wpAny (model X.prog X.w) A (call (.builtin "dict.clear") [.ref a]) Q E s := by
  obtain ⟨z, hd, xs, rel, o, es, ep, h1, h2, h3, h4, h5⟩ := dt_of I.hok e
  have hz : es.size ≤ sizeLine := by
    rw [size_of_entries h4, ← Paired.length rel]; exact z
  have raw : s.heap.DictRaw a es ep := ⟨o, h1, h2, h3⟩
  refine call_meetsIn PySem.F.slot_dict_clear raw.typeIs PySem.F.entry_dict_clear (PySem.F.args_dict_clear_1 _) (meets_dict_clear_raw a) ⟨es, ep, raw, hz, fun h' dd' hs => h _ ?_⟩
  obtain ⟨o', q1, q2, q3⟩ := dd'
  exact d_write (t' := s.toks) I (by rw [e]; exact True.intro) hs ⟨o', q1⟩ ⟨Nat.zero_le _, hd, [], .nil, o', #[], ep + 1, q1, q2, q3, rfl, List.nodup_nil⟩
def rClearT : V → List V → Hp → VK → Prop := fun x vs H Q => ∃ (a : Addr) (kvs : List (List Key × V)), x = .ref a ∧ vs = [] ∧ H a = some (.dT kvs) ∧ Q .non (upd H a (.dT []))
theorem mt_clearT {X : Cx} : MtR X "dict.clear" rClearT := by
  intro pins s σ H x vs v us Q I rx rv h
  obtain ⟨a, kvs, ex, ev, e, q⟩ := h
  subst ex
  subst ev
  obtain rfl : v = Value.ref a := rx
  have hus := rv.zero
  subst hus
  exact d_clearT I e fun s' I' => ⟨.non, _, I', rfl, q⟩
section
variable {X : Cx} {ct : List (Str × List Str)} {Wx : WX} {e o tg : Expr} {f f1 f2 : CE} {r : CR} {p p' pos : Pos}
theorem s_clr (ho : PRf X ct Wx o r) (hb : attributeBase o "clear" X.env (eval o X.env) = eval o X.env := by rfl) (hline : (p'.endLine == p.line) = true := by rfl) (hw : swapsWith (.Call (.Attribute o "clear" p') [] [] p) none pos.line X.env = pure false := by rfl) :
    PSf X ct Wx (.Expr (.Call (.Attribute o "clear" p') [] [] p) pos) (sClr r) := by
  refine PS_fin (ps_expr (pe_bm0 PySem.F.plainAttrs_dict PySem.F.slot_dict_clear PySem.F.type_dict_clear mt_clearT ho hb hline) hw) ?_
  rintro D σ H l ⟨W0, H0, W, E, M, rel, p⟩
  refine ⟨W0, H0, W, E, M, rel, PostS.bindG p fun k M1 W1 H1 v _ x1 rel1 r1 l1 p => ?_⟩
  refine get_some (k := k) (E := E) (M := M1) (op := kClr) (fun c c' g q => ?_) fun g => by rw [g] at p; exact p.elim
  obtain ⟨a, rfl, at'⟩ := r1.at rel1 g
  cases c with
  | dT kvs =>
    cases q
    obtain ⟨vs, e, _, _⟩ := (at'.ok rel1).1
    refine ⟨.inr (.inr (.inl ⟨rfl, .inr ⟨_, e⟩⟩)), a, vs, rfl, rfl, e, ?_⟩
    exact up_end (c' := .dT []) rel1 at' (by rw [g]; rfl) ⟨[], upd_same, rfl, .nil⟩ (l1.upd (fun _ z => nomatch z) (fun _ z => nomatch z) fun _ _ z => nomatch z) p
  | _ => cases q
theorem s_pop {is : List Nat} {gt : TG} {gg : CG} (ho : PRf X ct Wx o r) (hg : PGf X ct tg is gt gg) (hb : attributeBase o "pop" X.env (eval o X.env) = eval o X.env := by rfl) (hline : (p'.endLine == p.line) = true := by rfl)
    (hs : swapsWithSole [tg] (.Call (.Attribute o "pop" p') [] [] p) pos.line X.env = pure false := by rfl) (hw : swappedStores [tg] (.Call (.Attribute o "pop" p') [] [] p) X.env = pure none := by rfl)
    (h1 : (assignEach [tg] X.env).map (·.2) = [assign tg X.env] := by rfl) : PSf X ct Wx (.Assign [tg] (.Call (.Attribute o "pop" p') [] [] p) pos) (sPop gg r) := by
  refine PS_fin (ps_asg (pe_bm0 PySem.F.plainAttrs_list PySem.F.slot_list_pop PySem.F.type_list_pop mt_pop ho hb hline) hg.1 hs hw h1) ?_
  rintro D σ H l ⟨W0, H0, W, E, M, rel, p⟩
  refine ⟨W0, H0, W, E, M, rel, PostS.bindG p fun k M1 W1 H1 v _ x1 rel1 r1 l1 p => ?_⟩
  cases g : k.get E M1 with
  | none => rw [g] at p; exact p.elim
  | some c =>
    cases c with
    | lst ds =>
      rw [g] at p
      dsimp only at p
      cases q : ds[ds.length - 1]? with
      | none => rw [q] at p; exact p.elim
      | some d =>
        rw [q] at p
        dsimp only at p
        obtain ⟨a, rfl, at'⟩ := r1.at rel1 g
        have hc := (at'.ok rel1).1
        have hz := (at'.ok rel1).2
        obtain ⟨vs, e, rv⟩ := id hc
        obtain ⟨v2, q2, r2⟩ := rv.get q
        rw [rv.length] at q2
        have x := Ext0.put (o' := .lst vs.dropLast) hc hz
        refine ⟨.inl ⟨rfl, _, SqL.of e⟩, a, vs, v2, rfl, rfl, e, q2, ?_⟩
        have rel2 := at'.put rel1 (c' := .lst ds.dropLast) (o' := .lst vs.dropLast) ⟨vs.dropLast, upd_same, by
          have t := (rv.mono x).take (ds.length - 1)
          have e2 : vs.take (ds.length - 1) = vs.dropLast := by rw [rv.length, List.dropLast_eq_take]
          rw [e2, ← List.dropLast_eq_take] at t
          exact t⟩
        have l2 : LenOk (upd H1 a (.lst vs.dropLast)) := l1.upd (fun _ z => by cases z; rw [List.length_dropLast]; have := l1.1 a vs (.inl e); omega) (fun _ z => nomatch z) fun _ _ z => nomatch z
        refine asg_end (Wx := Wx) hg.2 rel2 (r2.mono x) l2 (PostS.step x ?_)
        cases q3 : gg d (k.putE (.lst ds.dropLast) E) with
        | none => rw [q3] at p; exact p
        | some E1 => rw [q3] at p; exact p
    | _ => rw [g] at p; exact p.elim
theorem pf_isd (hm : X.mg "isinstance" = none) (hy : X.mg "dict" = none) (ha : PF X ct Wx o f) (hg : Gl X "isinstance" := by rfl) (hgy : Gl X "dict" := by rfl)
    (he : starEach [o, .Name "dict" p'] X.env = (false, eval o X.env) :: starEach [.Name "dict" p'] X.env := by rfl) (hpl : (backTo pos (starEach [.Name "dict" p'] X.env)).any (·.1) = false := by rfl) : PF X ct Wx (.Call (.Name "isinstance" p) [o, .Name "dict" p'] [] pos) (cIsDT f) := by
  refine PE.fin (pe_callB call_isi hg hm (by decide +kernel) (pa_cons ha (pa_cons (pe_bltn (v := .ty "dict") hgy hy (by decide +kernel) rfl (by decide) (by decide)) pa_nil) he) (by decide) (by decide) he hpl) ?_
  rintro σ H Q l ⟨W0, H0, W, E, M, rel, p⟩
  refine ⟨W0, H0, W, E, M, rel, Post.bind p fun d1 M1 W1 H1 v1 _ x1 rel1 p1 l1 p => ?_⟩
  cases d1 with
  | loc k =>
    dsimp only at p
    cases g : M1[k]? with
    | none => rw [g] at p; exact p.elim
    | some c =>
      rw [g] at p
      cases c with
      | dT kvs =>
        obtain ⟨a, rfl, at'⟩ := RpR.at (k := .loc k) rel1 p1 g
        obtain ⟨vs, e, _, _⟩ := (at'.ok rel1).1
        exact ⟨.ref a, .ty "dict", .type "dict", .type "dict", true, rfl, .ty "dict", .base (.dT e), kit_ty (kit_at (by decide) (by decide)), fun l'' => p W1 H1 _ Ext.refl rel1 (.bl _) l1⟩
      | _ => exact p.elim
  | _ => exact p.elim
theorem pf_lent (hm : X.mg "len" = none) (ha : PF X ct Wx o f) (hg : Gl X "len" := by rfl)
    (he : starEach [o] X.env = (false, eval o X.env) :: starEach [] X.env := by rfl) : PF X ct Wx (.Call (.Name "len" p) [o] [] pos) (cLenT f) := by
  refine PE.fin (pe_callB call_len_dT hg hm (by decide +kernel) (pa_cons ha pa_nil he) (by decide) (by decide) he rfl) ?_
  rintro σ H Q l ⟨W0, H0, W, E, M, rel, p⟩
  refine ⟨W0, H0, W, E, M, rel, Post.bind p fun d1 M1 W1 H1 v1 _ x1 rel1 p1 l1 p => ?_⟩
  cases d1 with
  | loc k =>
    dsimp only at p
    cases g : M1[k]? with
    | none => rw [g] at p; exact p.elim
    | some c =>
      rw [g] at p
      cases c with
      | dT kvs =>
        obtain ⟨a, rfl, at'⟩ := RpR.at (k := .loc k) rel1 p1 g
        obtain ⟨vs, e, hk, _⟩ := (at'.ok rel1).1
        have : vs.length = kvs.length := by have := congrArg List.length hk; simpa using this
        exact ⟨a, vs, rfl, e, by rw [this]; exact fun l'' => p W1 H1 _ Ext.refl rel1 (.int _) l1⟩
      | _ => exact p.elim
  | _ => exact p.elim
theorem pf_get (hu : X.A.units + 1 < cLine) (ha : POf X ct Wx o f1) (he : POf X ct Wx e f2) (m : M1 X o "get" p' e p := by exact ⟨rfl, rfl, rfl, rfl⟩) : PF X ct Wx (.Call (.Attribute o "get" p') [e] [] p) (cGet f1 f2) := by
  refine PE.fin (pe_dget1 hu ha he m) ?_
  rintro σ H Q l ⟨W0, H0, W, E, M, rel, p⟩
  refine ⟨W0, H0, W, E, M, rel, Post.bind p fun d1 M1 W1 H1 v1 _ x1 rel1 p1 l1 p => ?_⟩
  by_cases c : isDic (view M1 d1) = true
  · rw [if_pos c] at p
    have isd : ∃ a, v1 = .ref a ∧ IsD H1 a := by
      cases q : view M1 d1 with
      | dK kvs => obtain ⟨a, vs, ev, h, _⟩ := see_dK rel1 p1 q; exact ⟨a, ev, .inl ⟨_, h⟩⟩
      | dT kvs => obtain ⟨a, vs, ev, h, _⟩ := see_dT rel1 p1 q; exact ⟨a, ev, .inr ⟨_, h⟩⟩
      | _ => rw [q] at c; cases c
    obtain ⟨a, rfl, isd⟩ := isd
    refine ⟨a, rfl, isd, W0, H0, W1, E, M1, rel1, Post.bind p fun d2 M2 W2 H2 v2 _ x2 rel2 p2 l2 p => ?_⟩
    have s1 := p1.mono x2.toExt0
    cases q : gGet (view M2 d1) (view M2 d2) with
    | none => rw [q] at p; exact p.elim
    | some d =>
      rw [q] at p
      unfold gGet at q
      split at q
      · rename_i dk kvs e1
        rw [Option.map_eq_some_iff] at q
        obtain ⟨j, q1, rfl⟩ := q
        obtain ⟨p1', vs, ep, h, hk, r⟩ := see_dK rel2 s1 e1
        cases ep
        have ek : v2 = kV j := by
          generalize e2 : view M2 d2 = dk2 at q1
          cases dk2 with
          | int i => cases q1; exact see_int rel2 p2 e2
          | str i => cases q1; exact see_str rel2 p2 e2
          | _ => cases q1
        cases q2 : look kvs j with
        | none =>
          rw [q2] at p
          exact ⟨none, .inl ⟨vs, j, h, ek, ((reps_look hk r).2 q2).symm⟩, fun l'' => p W2 H2 _ Ext.refl rel2 .non l2⟩
        | some d =>
          rw [q2] at p
          obtain ⟨v, h1, h2⟩ := (reps_look hk r).1 q2
          exact ⟨some v, .inl ⟨vs, j, h, ek, h1.symm⟩, fun l'' => p W2 H2 _ Ext.refl rel2 h2 l2⟩
      · rename_i kvs ds e1 e2
        rw [Option.map_eq_some_iff] at q
        obtain ⟨ks, q1, rfl⟩ := q
        obtain ⟨p1', vs, ep, h, hk, r⟩ := see_dT rel2 s1 e1
        cases ep
        obtain ⟨pp, us, rfl, h3, r3, _⟩ := see_tup rel2 p2 e2
        obtain rfl := reps_keys r3 q1
        cases q2 : look kvs ks with
        | none =>
          rw [q2] at p
          exact ⟨none, .inr ⟨vs, ks, pp, h, rfl, h3, ((reps_look hk r).2 q2).symm⟩, fun l'' => p W2 H2 _ Ext.refl rel2 .non l2⟩
        | some d =>
          rw [q2] at p
          obtain ⟨v, h1, h2⟩ := (reps_look hk r).1 q2
          exact ⟨some v, .inr ⟨vs, ks, pp, h, rfl, h3, h1.symm⟩, fun l'' => p W2 H2 _ Ext.refl rel2 h2 l2⟩
      · cases q
  · rw [if_neg c] at p; exact p.elim
end
end J
namespace J
open PySem PySem.Spec L2
/-! ### a, b = a list -/
@[simp] def gTL (gs : List CG) : CG := fun d E => match d with
  | .lst ds => gsN gs ds E
  | _ => none
section
variable {X : Cx} {ct : List (Str × List Str)} {es : List Expr} {pos : Pos}
theorem pg_tl {k : Nat} {is : List Nat} {gs : List CG} {g1 : TGs} (hc : X.calm = true) (h : PGfs X ct es is g1 gs) (hn : (assignEach es X.env).length = gs.length := by rfl) (hst : (assignEach es X.env).findIdx? (·.1) = none := by rfl) : PGf X ct (.Tuple es k pos) is (gLst X.K gs.length g1) (gTL gs) := by
  obtain ⟨a1, k1⟩ := h
  refine ⟨pg_lst hc a1 hn hst, fun W0 H0 W σ H E M d v E' Q rel r h k => ?_⟩
  cases r with
  | @lst p vs ds z h1 r =>
    have h : gsN gs ds E = some E' := h
    exact ⟨p, vs, rfl, .of h1, by rw [← r.length]; exact gsN_len h, k1 W0 H0 W σ H E M ds vs E' Q rel r h k⟩
  | _ => cases h
end
end J
namespace J
open PySem
/-! what the functions compute: rewriting -/
@[simp] theorem view_non (M : Mem) : view M .non = .non := rfl
@[simp] theorem view_bl (M : Mem) (b : Bool) : view M (.bl b) = .bl b := rfl
@[simp] theorem view_int (M : Mem) (i : Int) : view M (.int i) = .int i := rfl
@[simp] theorem view_str (M : Mem) (x : Str) : view M (.str x) = .str x := rfl
@[simp] theorem view_tup (M : Mem) (ds : List D) : view M (.tup ds) = .tup ds := rfl
@[simp] theorem view_lst (M : Mem) (ds : List D) : view M (.lst ds) = .lst ds := rfl
@[simp] theorem view_dK (M : Mem) (kvs : List (Key × D)) : view M (.dK kvs) = .dK kvs := rfl
@[simp] theorem view_dT (M : Mem) (kvs : List (List Key × D)) : view M (.dT kvs) = .dT kvs := rfl
@[simp] theorem view_obj (M : Mem) (c : Nat) (ds : List D) : view M (.obj c ds) = .obj c ds := rfl
@[simp] theorem view_fn (M : Mem) (x : Str) : view M (.fn x) = .fn x := rfl
@[simp] theorem view_scr (M : Mem) (ds : List D) : view M (.scr ds) = .scr ds := rfl
theorem view_loc (M : Mem) (l : Nat) (c : Cell) (h : M[l]? = some c) : view M (.loc l) = c.tree := by simp [view, h]
@[simp] theorem gEq_int (a b : Int) : gEq (.int a) (.int b) = some (.bl (decide (a = b))) := rfl
@[simp] theorem gNe_int (a b : Int) : gNe (.int a) (.int b) = some (.bl (!decide (a = b))) := rfl
theorem gMul_int (a b : Int) (h : small64 a = true ∨ small64 b = true) : gMul (.int a) (.int b) = some (.int (a * b)) := by
  have h : (small64 a || small64 b) = true := by simpa using h
  show (if (small64 a || small64 b) = true then some (D.int (a * b)) else none) = _
  rw [if_pos h]
theorem gMul_tup1 (d : D) (i : Int) (k : Nat) (e : i = k) (hk : k ≤ sizeMax) : gMul (.tup [d]) (.int i) = some (.tup (List.replicate k d)) := by
  subst e
  show (if (k : Int).natAbs ≤ sizeMax ∧ [d].length * (k : Int).toNat ≤ sizeMax then some (D.tup (List.replicate (k : Int).toNat [d]).flatten) else none) = _
  have e2 : ∀ k : Nat, (List.replicate k [d]).flatten = List.replicate k d := fun k => by
    induction k with
    | zero => rfl
    | succ k ih => rw [List.replicate_succ, List.flatten_cons, ih, List.replicate_succ]; rfl
  rw [if_pos (by constructor <;> simp <;> omega), e2]
  simp
theorem gMod_int (a b : Int) (h : 0 < b) : gMod (.int a) (.int b) = some (.int (a % b)) := by
  show (if 0 < b then some (D.int (a % b)) else none) = _
  rw [if_pos h]
theorem gDiv_int (a b : Int) (h : 0 < b) (h2 : b < 1073741824) : gDiv (.int a) (.int b) = some (.int (a / b)) := by
  show (if 0 < b ∧ b < 1073741824 then some (D.int (a / b)) else none) = _
  rw [if_pos ⟨h, h2⟩]
@[simp] theorem isI_int_int (i : Int) : gIsI "int" (.int i) = some (.bl true) := rfl
@[simp] theorem isI_bool_int (i : Int) : gIsI "bool" (.int i) = some (.bl false) := rfl
@[simp] theorem isI_tuple_tup (ds : List D) : gIsI "tuple" (.tup ds) = some (.bl true) := rfl
@[simp] theorem isI_tuple_int (i : Int) : gIsI "tuple" (.int i) = some (.bl false) := rfl
@[simp] theorem isI_int_tup (ds : List D) : gIsI "int" (.tup ds) = some (.bl false) := rfl
@[simp] theorem isI_tuple_lst (ds : List D) : gIsI "tuple" (.lst ds) = some (.bl false) := rfl
@[simp] theorem isI_int_bl (b : Bool) : gIsI "int" (.bl b) = some (.bl true) := rfl
@[simp] theorem isI_bool_bl (b : Bool) : gIsI "bool" (.bl b) = some (.bl true) := rfl

@[simp] theorem ixN_z {n : Nat} (h : 0 < n) : ixN n 0 = some 0 := by unfold ixN; rw [if_pos (by omega), if_pos (by omega)]; rfl
/-! lists of ints -/
abbrev dI (ns : List Int) : List D := ns.map D.int
@[simp] theorem intsD_map : ∀ ns : List Int, intsD (ns.map D.int) = some ns
  | [] => rfl
  | n :: ns => by simp [intsD, intsD_map ns]
@[simp] theorem boolsD_map : ∀ ns : List Bool, boolsD (ns.map D.bl) = some ns
  | [] => rfl
  | n :: ns => by simp [boolsD, boolsD_map ns]
theorem gSum_tup (ns : List Int) : gSum (.tup (ns.map D.int)) = some (.int ns.sum) := by simp [gSum]
theorem gSum_lst (ns : List Int) : gSum (.lst (ns.map D.int)) = some (.int ns.sum) := by simp [gSum]
theorem gAll_lst (ns : List Bool) : gAll (.lst (ns.map D.bl)) = some (.bl (ns.all id)) := by simp [gAll]

@[simp] theorem gAll_rep (n : Nat) : gAll (.lst (List.replicate n (D.bl true))) = some (.bl true) := by
  have := gAll_lst (List.replicate n true)
  rw [List.map_replicate] at this
  rw [this]
  simp
/-! comprehensions -/
/-- what a comprehension makes where nothing is changed and all are taken -/
theorem compL_map {vs : List Nat} {g : CG} {f : CE} {E : Env} {M : Mem} {α : Type} (el : α → D) (out : α → D) (xs : List α)
    (h : ∀ x ∈ xs, ∃ E1, g (el x) (wipe E vs) = some E1 ∧ f E1 M = .ok (out x) M) : compL vs g tYes f (xs.map el) E M = .ok (xs.map out) M := by
  induction xs with
  | nil => rfl
  | cons x xs ih =>
    obtain ⟨E1, h1, h2⟩ := h x List.mem_cons_self
    rw [List.map_cons, compL, h1]
    dsimp only [tYes, R.nox, R.bind]
    rw [if_pos rfl, h2]
    dsimp only [R.nox, R.bind]
    rw [ih fun y hy => h y (List.mem_cons_of_mem _ hy)]
    rfl
/-- .. with a test -/
theorem compL_filter {vs : List Nat} {g : CG} {t : CT} {f : CE} {E : Env} {M : Mem} {α : Type} (el : α → D) (out : α → D) (ok : α → Bool) (xs : List α)
    (h : ∀ x ∈ xs, ∃ E1, g (el x) (wipe E vs) = some E1 ∧ t E1 M = .ok (ok x) M ∧ (ok x = true → f E1 M = .ok (out x) M)) : compL vs g t f (xs.map el) E M = .ok ((xs.filter ok).map out) M := by
  induction xs with
  | nil => rfl
  | cons x xs ih =>
    obtain ⟨E1, h1, h2, h3⟩ := h x List.mem_cons_self
    have ih := ih fun y hy => h y (List.mem_cons_of_mem _ hy)
    rw [List.map_cons, compL, h1]
    dsimp only
    rw [h2]
    dsimp only [R.nox, R.bind]
    cases q : ok x with
    | true =>
      rw [if_pos rfl, h3 q]
      dsimp only [R.nox, R.bind]
      rw [ih, List.filter_cons, if_pos q]
      rfl
    | false =>
      rw [if_neg Bool.false_ne_true, ih, List.filter_cons, if_neg (by rw [q]; exact Bool.false_ne_true)]
/-- a comprehension that changes cells: step by step -/
theorem compL_run {vs : List Nat} {g : CG} {f : CE} {E : Env} {α : Type} (el : α → D) (P : List D → Mem → Prop) (xs : List α)
    (h : ∀ x ∈ xs, ∀ out M, P out M → ∃ E1 d M', g (el x) (wipe E vs) = some E1 ∧ f E1 M = .ok d M' ∧ P (out ++ [d]) M') :
    ∀ out M, P out M → ∃ ds M', compL vs g tYes f (xs.map el) E M = .ok ds M' ∧ P (out ++ ds) M' := by
  induction xs with
  | nil => exact fun out M p => ⟨[], M, rfl, by rw [List.append_nil]; exact p⟩
  | cons x xs ih =>
    intro out M p
    obtain ⟨E1, d, M1, h1, h2, p1⟩ := h x List.mem_cons_self out M p
    obtain ⟨ds, M2, h3, p2⟩ := ih (fun y hy => h y (List.mem_cons_of_mem _ hy)) _ _ p1
    refine ⟨d :: ds, M2, ?_, by rw [List.append_assoc] at p2; exact p2⟩
    rw [List.map_cons, compL, h1]
    dsimp only [tYes, R.nox, R.bind]
    rw [if_pos rfl, h2]
    dsimp only [R.nox, R.bind]
    rw [h3]

theorem compL_runI {vs : List Nat} {g : CG} {f : CE} {E : Env} {α : Type} (el : α → D) (P : List D → Mem → Prop) : ∀ (xs : List α) (i0 : Nat)
    (h : ∀ i x, xs[i]? = some x → ∀ out M, out.length = i0 + i → P out M → ∃ E1 d M', g (el x) (wipe E vs) = some E1 ∧ f E1 M = .ok d M' ∧ P (out ++ [d]) M') (out : List D) (M : Mem), out.length = i0 → P out M →
    ∃ ds M', compL vs g tYes f (xs.map el) E M = .ok ds M' ∧ P (out ++ ds) M' ∧ ds.length = xs.length
  | [], i0, h, out, M, hl, p => ⟨[], M, rfl, by rw [List.append_nil]; exact p, rfl⟩
  | x :: xs, i0, h, out, M, hl, p => by
    obtain ⟨E1, d, M1, h1, h2, p1⟩ := h 0 x (by simp) out M (by simpa using hl) p
    obtain ⟨ds, M2, h3, p2, h4⟩ := compL_runI el P xs (i0 + 1) (fun i y hy out M hl hp => h (i + 1) y (by simpa using hy) out M (by omega) hp) (out ++ [d]) M1 (by simp [hl]) p1
    refine ⟨d :: ds, M2, ?_, by rw [List.append_assoc] at p2; exact p2, by simp [h4]⟩
    rw [List.map_cons, compL, h1]
    dsimp only [tYes, R.nox, R.bind]
    rw [if_pos rfl, h2]
    dsimp only [R.nox, R.bind]
    rw [h3]
theorem compL_len {vs : List Nat} {g : CG} {f : CE} : ∀ (xs : List D) E M ds M', compL vs g tYes f xs E M = .ok ds M' → ds.length = xs.length := by
  intro xs
  induction xs with
  | nil => intro E M ds M' h; rw [compL] at h; cases h; rfl
  | cons x xs ih =>
    intro E M ds M' h
    rw [compL] at h
    cases q : g x (wipe E vs) with
    | none => rw [q] at h; cases h
    | some E1 =>
      rw [q] at h
      dsimp only [tYes, R.nox, R.bind] at h
      rw [if_pos rfl] at h
      cases q2 : f E1 M with
      | bad => rw [q2] at h; cases h
      | exc _ _ _ => rw [q2] at h; cases h
      | ok d M1 =>
        rw [q2] at h
        dsimp only [R.nox, R.bind] at h
        cases q3 : compL vs g tYes f xs E M1 with
        | bad => rw [q3] at h; cases h
        | exc _ _ _ => rw [q3] at h; cases h
        | ok ds2 M2 =>
          rw [q3] at h
          cases h
          rw [List.length_cons, List.length_cons, ih _ _ _ _ q3]

/-! loops -/
/-- by a word of the turns: each turn goes on -/
theorem forL_run {g : CG} {s : CS} {α : Type} (el : α → D) (P : Nat → Env → Mem → Prop) : ∀ (xs : List α) (i0 : Nat)
    (h : ∀ (i : Nat) (x : α) E M, xs[i]? = some x → P (i0 + i) E M → ∃ E1 E2 M2, g (el x) E = some E1 ∧ (s E1 M = .ok (.nx, E2) M2 ∨ s E1 M = .ok (.ct, E2) M2) ∧ P (i0 + i + 1) E2 M2) (E : Env) (M : Mem), P i0 E M →
    ∃ E' M', forL g s (xs.map el) E M = .ok (.nx, E') M' ∧ P (i0 + xs.length) E' M'
  | [], i0, h, E, M, p => ⟨E, M, rfl, by simpa using p⟩
  | x :: xs, i0, h, E, M, p => by
    obtain ⟨E1, E2, M2, h1, h2, p2⟩ := h 0 x E M (by simp) (by simpa using p)
    obtain ⟨E', M', h3, p3⟩ := forL_run el P xs (i0 + 1) (fun i y E M hy hp => by
      have := h (i + 1) y E M (by simpa using hy) (by rw [show i0 + (i + 1) = i0 + 1 + i by omega]; exact hp)
      rw [show i0 + (i + 1) + 1 = i0 + 1 + i + 1 by omega] at this
      exact this) E2 M2 (by simpa using p2)
    refine ⟨E', M', ?_, by rw [List.length_cons, show i0 + (xs.length + 1) = i0 + 1 + xs.length by omega]; exact p3⟩
    rw [List.map_cons, forL, h1]
    dsimp only
    rcases h2 with h2 | h2 <;> (rw [h2]; exact h3)
theorem upFrom_map : ∀ (n : Nat) (a : Int), upFrom a n = (List.range n).map fun (i : Nat) => D.int (a + (i : Int))
  | 0, a => rfl
  | n + 1, a => by
    rw [upFrom, upFrom_map n (a + 1), List.range_succ_eq_map, List.map_cons, List.map_map]
    rw [show a + ((0 : Nat) : Int) = a by simp]
    congr 1
    apply List.map_congr_left
    intro i _
    simp only [Function.comp]
    congr 1
    push_cast
    omega
theorem upFrom0 (n : Nat) : upFrom 0 n = (List.range n).map fun (i : Nat) => D.int (i : Int) := by
  rw [upFrom_map]; simp
theorem pairUp_map {α β : Type} (f : α → D) (g : β → D) : ∀ (xs : List α) (ys : List β), pairUp (xs.map f) (ys.map g) = (xs.zip ys).map fun p => D.tup [f p.1, g p.2]
  | [], _ => by simp [pairUp]
  | _ :: _, [] => by simp [pairUp]
  | x :: xs, y :: ys => by simp [pairUp, pairUp_map f g xs ys]
theorem sIx_lo (n : Nat) (a : Nat) (d : Nat) : sIx n d (some (a : Int)) = min a n := by
  show (if (a : Int) < 0 then ((a : Int) + (n : Int)).toNat else min (a : Int).toNat n) = _
  rw [if_neg (by omega)]
  simp
theorem cutD_lo {ds : List D} {a : Nat} : cutD ds (some (a : Int)) none = ds.drop a := by
  unfold cutD
  rw [sIx_lo]
  show ((ds.drop (min a ds.length)).take (ds.length - min a ds.length)) = _
  rcases Nat.le_total a ds.length with h | h
  · rw [Nat.min_eq_left h, List.take_of_length_le (by simp)]
  · rw [Nat.min_eq_right h, List.drop_of_length_le h]; simp
theorem cutD_hi {ds : List D} {b : Nat} : cutD ds none (some (b : Int)) = ds.take b := by
  unfold cutD
  rw [sIx_lo]
  show ((ds.drop 0).take (min b ds.length - 0)) = _
  simp
theorem cutD_both {ds : List D} {a b : Nat} : cutD ds (some (a : Int)) (some (b : Int)) = (ds.drop a).take (b - a) := by
  unfold cutD
  rw [sIx_lo, sIx_lo]
  rcases Nat.le_total a ds.length with h | h
  · rw [Nat.min_eq_left h]
    rcases Nat.le_total b ds.length with h2 | h2
    · rw [Nat.min_eq_left h2]
    · rw [Nat.min_eq_right h2, List.take_of_length_le (by simp), List.take_of_length_le (by simp; omega)]
  · rw [Nat.min_eq_right h, List.drop_of_length_le h, List.drop_of_length_le (Nat.le_refl _)]; simp

/-! dicts -/
theorem look_mem {κ : Type} [DecidableEq κ] {kvs : List (κ × D)} {k : κ} {d : D} (h : look kvs k = some d) : (k, d) ∈ kvs := by
  unfold look at h
  obtain ⟨p, h1, h2⟩ := Option.map_eq_some_iff.mp h
  have := List.find?_some h1
  have e : p.1 = k := by simpa using this
  have hm := List.mem_of_find?_eq_some h1
  obtain ⟨a, b⟩ := p
  simp at e h2
  subst e h2
  exact hm
theorem look_any {κ : Type} [DecidableEq κ] {kvs : List (κ × D)} {k : κ} (h : (kvs.any fun kv => decide (kv.1 = k)) = true) : ∃ d, look kvs k = some d := by
  unfold look
  rw [List.any_eq_true] at h
  obtain ⟨x, hx, e⟩ := h
  cases q : kvs.find? fun kv => decide (kv.1 = k) with
  | none =>
    have := List.find?_eq_none.mp q x hx
    exact (this e).elim
  | some y => exact ⟨y.2, by simp⟩
theorem put_new {κ : Type} [DecidableEq κ] {kvs : List (κ × D)} {k : κ} {d : D} (h : (kvs.any fun kv => decide (kv.1 = k)) = false) : put kvs k d = kvs ++ [(k, d)] := by
  unfold put
  rw [if_neg (by rw [h]; exact Bool.false_ne_true)]
theorem look_new {κ : Type} [DecidableEq κ] {kvs : List (κ × D)} {k : κ} {d : D} (h : (kvs.any fun kv => decide (kv.1 = k)) = false) : look (kvs ++ [(k, d)]) k = some d := by
  unfold look
  rw [List.find?_append]
  have : (kvs.find? fun kv => decide (kv.1 = k)) = none := by
    rw [List.find?_eq_none]
    intro x hx q
    have : (kvs.any fun kv => decide (kv.1 = k)) = true := List.any_eq_true.mpr ⟨x, hx, q⟩
    rw [h] at this; cases this
  rw [this]
  simp
theorem look_put {κ : Type} [DecidableEq κ] {kvs : List (κ × D)} {k : κ} {d : D} : look (put kvs k d) k = some d := by
  cases h : kvs.any fun kv => decide (kv.1 = k) with
  | false => rw [put_new h]; exact look_new h
  | true =>
    unfold put
    rw [if_pos h]
    have go : ∀ kvs : List (κ × D), (kvs.any fun kv => decide (kv.1 = k)) = true → look (kvs.map fun kv => if kv.1 = k then (kv.1, d) else kv) k = some d := by
      intro kvs
      induction kvs with
      | nil => intro h; cases h
      | cons p r ih =>
        intro h
        by_cases e : p.1 = k
        · simp [look, e]
        · have h2 : (r.any fun kv => decide (kv.1 = k)) = true := by simpa [e] using h
          have := ih h2
          unfold look at this ⊢
          rw [List.map_cons, List.find?_cons]
          simp only [e, if_false]
          simpa using this
    exact go kvs h
theorem mem_put {κ : Type} [DecidableEq κ] {kvs : List (κ × D)} {k : κ} {d : D} {p : κ × D} (h : p ∈ put kvs k d) : p = (k, d) ∨ p ∈ kvs := by
  unfold put at h
  split at h
  · obtain ⟨q, h1, h2⟩ := List.mem_map.mp h
    by_cases e : q.1 = k
    · rw [if_pos e] at h2; left; rw [← h2, e]
    · rw [if_neg e] at h2; right; rw [← h2]; exact h1
  · rcases List.mem_append.mp h with q | q
    · exact .inr q
    · exact .inl (List.mem_singleton.mp q)
theorem put_nodup {κ : Type} [DecidableEq κ] {kvs : List (κ × D)} {k : κ} {d : D} (h : (kvs.map (·.1)).Nodup) : ((put kvs k d).map (·.1)).Nodup := by
  unfold put
  split
  · have : (kvs.map fun kv => if kv.1 = k then (kv.1, d) else kv).map (·.1) = kvs.map (·.1) := by
      rw [List.map_map]
      apply List.map_congr_left
      intro x _
      by_cases e : x.1 = k
      · simp [e]
      · simp [e]
    rw [this]; exact h
  · rename_i hn
    rw [List.map_append]
    refine List.nodup_append.mpr ⟨h, by simp, fun a ha b hb q => hn ?_⟩
    obtain ⟨x, hx, rfl⟩ := List.mem_map.mp ha
    simp at hb
    rw [List.any_eq_true]
    exact ⟨x, hx, by simp [q, hb]⟩
/-- the least of a list of numbers -/
theorem foldl_min_sp : ∀ (ns : List Int) (a : Int), ns.foldl min a ≤ a ∧ (∀ x ∈ ns, ns.foldl min a ≤ x) ∧ (ns.foldl min a = a ∨ ns.foldl min a ∈ ns)
  | [], a => ⟨Int.le_refl _, fun x h => (nomatch h), .inl rfl⟩
  | n :: ns, a => by
    obtain ⟨h1, h2, h3⟩ := foldl_min_sp ns (min a n)
    rw [List.foldl_cons]
    refine ⟨by omega, fun x hx => ?_, ?_⟩
    · rcases List.mem_cons.mp hx with q | q
      · subst q; omega
      · exact h2 x q
    · rcases h3 with q | q
      · rw [q]
        rcases Int.le_total a n with z | z
        · left; omega
        · right
          have : min a n = n := by omega
          rw [this]; exact List.mem_cons_self
      · right; exact List.mem_cons_of_mem _ q
theorem minL_spec {ns : List Int} {v : Int} (h : minL ns = some v) : v ∈ ns ∧ ∀ x ∈ ns, v ≤ x := by
  cases ns with
  | nil => cases h
  | cons n ns =>
    cases h
    obtain ⟨h1, h2, h3⟩ := foldl_min_sp ns n
    refine ⟨?_, fun x hx => ?_⟩
    · rcases h3 with q | q
      · rw [q]; exact List.mem_cons_self
      · exact List.mem_cons_of_mem _ q
    · rcases List.mem_cons.mp hx with q | q
      · subst q; exact h1
      · exact h2 x q
theorem minL_some {ns : List Int} (h : ns ≠ []) : ∃ v, minL ns = some v := by
  cases ns with
  | nil => exact (h rfl).elim
  | cons n ns => exact ⟨_, rfl⟩
theorem gMin_lst {ns : List Int} {v : Int} (h : minL ns = some v) : gMin (.lst (ns.map D.int)) = some (.int v) := by simp [gMin, h]
theorem foldl_max_sp : ∀ (ns : List Int) (a : Int), a ≤ ns.foldl max a ∧ (∀ x ∈ ns, x ≤ ns.foldl max a) ∧ (ns.foldl max a = a ∨ ns.foldl max a ∈ ns)
  | [], a => ⟨Int.le_refl _, fun x h => (nomatch h), .inl rfl⟩
  | n :: ns, a => by
    obtain ⟨h1, h2, h3⟩ := foldl_max_sp ns (max a n)
    rw [List.foldl_cons]
    refine ⟨by omega, fun x hx => ?_, ?_⟩
    · rcases List.mem_cons.mp hx with q | q
      · subst q; omega
      · exact h2 x q
    · rcases h3 with q | q
      · rw [q]
        rcases Int.le_total a n with z | z
        · right
          have : max a n = n := by omega
          rw [this]; exact List.mem_cons_self
        · left; omega
      · right; exact List.mem_cons_of_mem _ q
theorem maxL_spec {ns : List Int} {v : Int} (h : maxL ns = some v) : v ∈ ns ∧ ∀ x ∈ ns, x ≤ v := by
  cases ns with
  | nil => cases h
  | cons n ns =>
    cases h
    obtain ⟨h1, h2, h3⟩ := foldl_max_sp ns n
    refine ⟨?_, fun x hx => ?_⟩
    · rcases h3 with q | q
      · rw [q]; exact List.mem_cons_self
      · exact List.mem_cons_of_mem _ q
    · rcases List.mem_cons.mp hx with q | q
      · subst q; exact h1
      · exact h2 x q
theorem maxL_some {ns : List Int} (h : ns ≠ []) : ∃ v, maxL ns = some v := by
  cases ns with
  | nil => exact (h rfl).elim
  | cons n ns => exact ⟨_, rfl⟩
theorem gMax_tup {ns : List Int} (h : ns ≠ []) : ∃ v, gMax (.tup (ns.map D.int)) = some (.int v) ∧ v ∈ ns ∧ ∀ x ∈ ns, x ≤ v := by
  obtain ⟨v, hv⟩ := maxL_some h
  exact ⟨v, by simp [gMax, hv], maxL_spec hv⟩
/-- so many numbers below n there are at most -/
theorem nodup_len : ∀ (n : Nat) (xs : List Nat), xs.Nodup → (∀ x ∈ xs, x < n) → xs.length ≤ n
  | 0, xs, _, h => by
    cases xs with
    | nil => simp
    | cons x xs => have := h x List.mem_cons_self; omega
  | n + 1, xs, nd, h => by
    by_cases q : n ∈ xs
    · have h1 := nodup_len n (xs.erase n) (nd.erase n) fun x hx => by
        have h2 := h x (List.mem_of_mem_erase hx)
        have h3 : x ≠ n := fun e => by
          subst e
          exact (List.Nodup.mem_erase_iff nd).mp hx |>.1 rfl
        omega
      rw [List.length_erase_of_mem q] at h1
      omega
    · have := nodup_len n xs nd fun x hx => by
        have h2 := h x hx
        have h3 : x ≠ n := fun e => q (e ▸ hx)
        omega
      omega
end J
namespace PM
/-! ## plans: each hour joins runs from the youngest on; st: the hours where the runs begin -/
/-- the sizes from hour g to hour h -/
def S (sz : List Int) (g h : Nat) : Int := ((sz.drop g).take (h + 1 - g)).sum
inductive Path (sz : List Int) (m h0 : Nat) : Nat → List Nat → List Nat → Int → Prop
  | nil : Path sz m h0 h0 [] [] 0
  | step {h : Nat} {st pl : List Nat} {c : Int} (p : Path sz m h0 h st pl c) (a g : Nat) (ha : a < m) (hg : (st ++ [h])[a]? = some g) : Path sz m h0 (h + 1) (st.take a ++ [g]) (pl ++ [g]) (c + S sz g h)
section
variable {sz : List Int} {m m' h0 h t L : Nat} {st pl st1 st2 pl1 pl2 : List Nat} {c c1 c2 : Int}
theorem Path.le (p : Path sz m h0 h st pl c) : h0 ≤ h := by
  induction p with
  | nil => exact Nat.le_refl _
  | step _ _ _ _ _ ih => omega
theorem Path.len (p : Path sz m h0 h st pl c) : h = h0 + pl.length := by
  induction p with
  | nil => simp
  | step _ _ _ _ _ ih => rw [List.length_append, List.length_singleton]; omega
theorem Path.stl (p : Path sz m h0 h st pl c) : st.length ≤ h - h0 := by
  have := p.le
  induction p with
  | nil => simp
  | @step h st pl c p a g ha hg ih =>
    have := ih p.le
    have := p.le
    rw [List.length_append, List.length_take, List.length_singleton]
    have : a < (st ++ [h]).length := (List.getElem?_eq_some_iff.mp hg).1
    rw [List.length_append, List.length_singleton] at this
    omega
/-- more runs let more -/
theorem Path.mono (p : Path sz m h0 h st pl c) (hm : m ≤ m') : Path sz m' h0 h st pl c := by
  induction p with
  | nil => exact .nil
  | step _ a g ha hg ih => exact .step ih a g (Nat.lt_of_lt_of_le ha hm) hg
/-- no more runs than hours -/
theorem Path.cap (p : Path sz m h0 h st pl c) (hl : h ≤ h0 + L) : Path sz (min m L) h0 h st pl c := by
  induction p with
  | nil => exact .nil
  | @step h st pl c p a g ha hg ih =>
    refine .step (ih (by omega)) a g ?_ hg
    have h1 : a < (st ++ [h]).length := (List.getElem?_eq_some_iff.mp hg).1
    rw [List.length_append, List.length_singleton] at h1
    have := p.stl
    have := p.le
    omega
/-- split at the last hour that writes the eldest run -/
theorem Path.split (p : Path sz m h0 h st pl c) (hh : h0 < h) : 0 < m ∧ ∃ t st1 pl1 c1 st2 pl2 c2, h0 ≤ t ∧ t < h ∧ Path sz m h0 t st1 pl1 c1 ∧ Path sz (m - 1) (t + 1) h st2 pl2 c2 ∧ st = h0 :: st2 ∧ c = c1 + S sz h0 t + c2 := by
  induction p with
  | nil => omega
  | @step h st pl c p a g ha hg ih =>
    refine ⟨by omega, ?_⟩
    by_cases q : h0 < h
    · obtain ⟨_, t, st1, pl1, c1, st2, pl2, c2, h1, h2, p1, p2, e1, e2⟩ := ih q
      subst e1
      cases a with
      | zero =>
        simp at hg
        subst hg
        exact ⟨h, _, _, _, [], [], 0, by omega, by omega, p, .nil, by simp, by simp⟩
      | succ a =>
        refine ⟨t, st1, pl1, c1, st2.take a ++ [g], pl2 ++ [g], c2 + S sz g h, h1, by omega, p1, .step p2 a g (by omega) (by simpa using hg), by simp, ?_⟩
        rw [e2]; omega
    · have e : h = h0 := by have := p.le; omega
      subst e
      have hs : st = [] := by
        have := p.stl
        simpa using this
      subst hs
      cases a with
      | zero =>
        simp at hg
        subst hg
        exact ⟨h, [], _, _, [], [], 0, by omega, by omega, p, .nil, by simp, by simp⟩
      | succ a => simp at hg
/-- and put together -/
theorem Path.join (p1 : Path sz m h0 t st1 pl1 c1) (hm : 0 < m) (p2 : Path sz (m - 1) (t + 1) h st2 pl2 c2) : ∃ pl, Path sz m h0 h (h0 :: st2) pl (c1 + S sz h0 t + c2) := by
  have base : Path sz m h0 (t + 1) [h0] (pl1 ++ [h0]) (c1 + S sz h0 t) := by
    refine .step (st := st1) p1 0 h0 hm ?_
    by_cases q : h0 < t
    · obtain ⟨_, _, _, _, _, _, _, _, _, _, _, _, e, _⟩ := p1.split q
      subst e; simp
    · have e : t = h0 := by have := p1.le; omega
      subst e
      have hs : st1 = [] := by have := p1.stl; simpa using this
      subst hs; simp
  induction p2 with
  | nil => exact ⟨_, by rw [Int.add_zero]; exact base⟩
  | @step h st pl c p a g ha hg ih =>
    obtain ⟨pl', q⟩ := ih
    refine ⟨pl' ++ [g], ?_⟩
    have := Path.step q (a + 1) g (by omega) (by simpa using hg)
    rw [Int.add_assoc] at this
    simpa using this
/-- v is the least cost from hour h0 to hour h -/
def Least (sz : List Int) (m h0 h : Nat) (v : Int) : Prop := (∃ st pl, Path sz m h0 h st pl v) ∧ ∀ st pl c, Path sz m h0 h st pl c → v ≤ c
theorem Least.uniq {v w : Int} (a : Least sz m h0 h v) (b : Least sz m h0 h w) : v = w := by
  obtain ⟨⟨_, _, p⟩, la⟩ := a
  obtain ⟨⟨_, _, q⟩, lb⟩ := b
  have := la _ _ _ q
  have := lb _ _ _ p
  omega
theorem Least.nil : Least sz m h h 0 := by
  refine ⟨⟨[], [], .nil⟩, fun st pl c p => ?_⟩
  cases p with
  | nil => exact Int.le_refl _
  | step p => have := p.le; omega
theorem Least.cap {v : Int} (a : Least sz (min m (h - h0)) h0 h v) (hh : h0 ≤ h) : Least sz m h0 h v := by
  obtain ⟨⟨st, pl, p⟩, l⟩ := a
  refine ⟨⟨st, pl, p.mono (Nat.min_le_left _ _)⟩, fun st pl c q => l st pl c (q.cap (by omega))⟩
theorem Least.uncap {v : Int} (a : Least sz m h0 h v) (hh : h0 ≤ h) : Least sz (min m (h - h0)) h0 h v := by
  obtain ⟨⟨st, pl, p⟩, l⟩ := a
  refine ⟨⟨st, pl, p.cap (by omega)⟩, fun st pl c q => l st pl c (q.mono (Nat.min_le_left _ _))⟩
theorem no_path (hh : h0 < h) : ¬ Path sz 0 h0 h st pl c := fun p => by
  have := (p.split hh).1
  omega
/-- what the eldest run's last hour at t costs at least -/
def Cand (sz : List Int) (m h0 h t : Nat) (v : Int) : Prop := ∃ c1 c2, Least sz m h0 t c1 ∧ Least sz (m - 1) (t + 1) h c2 ∧ v = c1 + S sz h0 t + c2
/-- the least of the candidates -/
theorem least_of (hm : 0 < m) (hh : h0 < h) (v : Int) (h1 : ∃ t, h0 ≤ t ∧ t < h ∧ Cand sz m h0 h t v)
    (h2 : ∀ t, h0 ≤ t → t < h → (∃ w, Cand sz m h0 h t w ∧ v ≤ w) ∨ (m = 1 ∧ t + 1 < h)) : Least sz m h0 h v := by
  obtain ⟨t, _, _, c1, c2, ⟨⟨st1, pl1, p1⟩, _⟩, ⟨⟨st2, pl2, p2⟩, _⟩, e⟩ := h1
  obtain ⟨pl, p⟩ := p1.join hm p2
  refine ⟨⟨_, pl, by rw [e]; exact p⟩, fun st pl c q => ?_⟩
  obtain ⟨_, t, st1, pl1, c1, st2, pl2, c2, b1, b2, q1, q2, _, ec⟩ := q.split hh
  rcases h2 t b1 b2 with ⟨w, ⟨d1, d2, l1, l2, ew⟩, hw⟩ | ⟨rfl, z⟩
  · have := l1.2 _ _ _ q1
    have := l2.2 _ _ _ q2
    omega
  · exact (no_path (by omega) q2).elim
/-- with more runs it is no more -/
theorem Least.mono {v w : Int} (a : Least sz m h0 h v) (b : Least sz m' h0 h w) (hm : m ≤ m') : w ≤ v := by
  obtain ⟨⟨st, pl, p⟩, _⟩ := a
  exact b.2 _ _ _ (p.mono hm)
/-- one run -/
theorem Path.one (p : Path sz 1 h0 h st pl c) : pl = List.replicate (h - h0) h0 ∧ (st = [] ∧ h = h0 ∨ st = [h0]) := by
  induction p with
  | nil => simp
  | @step h st pl c p a g ha hg ih =>
    have := p.le
    have ea : a = 0 := by omega
    subst ea
    obtain ⟨e, hs⟩ := ih
    have eg : g = h0 := by
      rcases hs with ⟨hs, eh⟩ | hs
      · subst hs eh; simpa using hg.symm
      · subst hs; simpa using hg.symm
    subst eg
    refine ⟨?_, by simp⟩
    rw [e, show h + 1 - g = (h - g) + 1 by omega, List.replicate_succ']
/-- sizes all taken so many times -/
theorem S_mul (k : Int) (g h : Nat) : S (sz.map (· * k)) g h = S sz g h * k := by
  unfold S
  rw [← List.map_drop, ← List.map_take]
  have : ∀ xs : List Int, (xs.map (· * k)).sum = xs.sum * k := by
    intro xs
    induction xs with
    | nil => simp
    | cons x xs ih => rw [List.map_cons, List.sum_cons, List.sum_cons, ih, Int.add_mul]
  exact this _
theorem Path.mul (k : Int) (p : Path sz m h0 h st pl c) : Path (sz.map (· * k)) m h0 h st pl (c * k) := by
  induction p with
  | nil => rw [Int.zero_mul]; exact .nil
  | step p a g ha hg ih =>
    rw [Int.add_mul, ← S_mul]
    exact .step ih a g ha hg
theorem Path.unmul (k : Int) (p : Path (sz.map (· * k)) m h0 h st pl c) : ∃ c', c = c' * k ∧ Path sz m h0 h st pl c' := by
  induction p with
  | nil => exact ⟨0, by simp, .nil⟩
  | step p a g ha hg ih =>
    obtain ⟨c', e, q⟩ := ih
    exact ⟨c' + S sz g _, by rw [e, S_mul, Int.add_mul], .step q a g ha hg⟩
theorem Least.mul {v : Int} (k : Int) (hk : 0 ≤ k) (a : Least sz m h0 h v) : Least (sz.map (· * k)) m h0 h (v * k) := by
  obtain ⟨⟨st, pl, p⟩, l⟩ := a
  refine ⟨⟨st, pl, p.mul k⟩, fun st pl c q => ?_⟩
  obtain ⟨c', e, q⟩ := q.unmul
  rw [e]
  exact Int.mul_le_mul_of_nonneg_right (l _ _ _ q) hk
/-- the runs begin at rising hours -/
theorem Path.sorted (p : Path sz m h0 h st pl c) : st.Pairwise (· < ·) ∧ ∀ x ∈ st, x < h := by
  induction p with
  | nil => exact ⟨List.Pairwise.nil, fun x hx => by cases hx⟩
  | @step h st pl c p a g ha hg ih =>
    obtain ⟨s1, s2⟩ := ih
    have hs : (st ++ [h]).Pairwise (· < ·) := List.pairwise_append.mpr ⟨s1, by simp, fun x hx y hy => by rw [List.mem_singleton.mp hy]; exact s2 x hx⟩
    have hlt : a < (st ++ [h]).length := (List.getElem?_eq_some_iff.mp hg).1
    have hal : a ≤ st.length := by rw [List.length_append, List.length_singleton] at hlt; omega
    have e : st.take a ++ [g] = (st ++ [h]).take (a + 1) := by
      rw [List.take_add_one, hg, List.take_append_of_le_length hal]; rfl
    rw [e]
    refine ⟨hs.sublist (List.take_sublist _ _), fun x hx => ?_⟩
    have hx := List.mem_of_mem_take hx
    rcases List.mem_append.mp hx with q | q
    · have := s2 x q; omega
    · rw [List.mem_singleton.mp q]; omega
end
/-- what a plan writes -/
def paidFrom (sz : List Int) : Nat → List Nat → Int
  | _, [] => 0
  | h, g :: r => S sz g h + paidFrom sz (h + 1) r
theorem paidFrom_snoc (sz : List Int) (g : Nat) : ∀ (h : Nat) (pl : List Nat), paidFrom sz h (pl ++ [g]) = paidFrom sz h pl + S sz g (h + pl.length)
  | h, [] => by simp [paidFrom]
  | h, x :: pl => by
    rw [List.cons_append, paidFrom, paidFrom_snoc sz g (h + 1) pl, paidFrom, List.length_cons, show h + 1 + pl.length = h + (pl.length + 1) by omega]
    omega
theorem Path.paid {sz : List Int} {m h0 h : Nat} {st pl : List Nat} {c : Int} (p : Path sz m h0 h st pl c) : c = paidFrom sz h0 pl := by
  induction p with
  | nil => rfl
  | step p a g ha hg ih => rw [paidFrom_snoc, ← ih, ← p.len]
theorem paid_sum (sz : List Int) : ∀ (h : Nat) (pl : List Nat), (((List.range' h pl.length).zip pl).map fun p => S sz p.2 p.1).sum = paidFrom sz h pl
  | h, [] => rfl
  | h, g :: pl => by
    rw [List.length_cons, List.range'_succ, List.zip_cons_cons, List.map_cons, List.sum_cons, paid_sum sz (h + 1) pl]
    rfl
/-- a plan, seen from its first hour -/
def PlanOk : Nat → List Nat → List Nat → Prop
  | _, _, [] => True
  | h, b, g :: r => g ≤ h ∧ (g = h ∨ g ∈ b) ∧ PlanOk (h + 1) (b.filter (· < g) ++ [g]) r
def after (b pl : List Nat) : List Nat := pl.foldl (fun b g => b.filter (· < g) ++ [g]) b
theorem PlanOk.snoc (g : Nat) : ∀ {h : Nat} {b pl : List Nat}, PlanOk h b pl → g ≤ h + pl.length → (g = h + pl.length ∨ g ∈ after b pl) → PlanOk h b (pl ++ [g])
  | h, b, [], _, h1, h2 => by simpa [PlanOk, after] using ⟨h1, h2⟩
  | h, b, x :: pl, p, h1, h2 => by
    obtain ⟨p0, p1, p2⟩ := p
    refine ⟨p0, p1, p2.snoc g (by rw [List.length_cons] at h1; omega) ?_⟩
    rcases h2 with h2 | h2
    · left; rw [List.length_cons] at h2; omega
    · right; exact h2
theorem filter_take {st : List Nat} {h a g : Nat} (s1 : st.Pairwise (· < ·)) (s2 : ∀ x ∈ st, x < h) (hg : (st ++ [h])[a]? = some g) : st.filter (· < g) = st.take a := by
  have hs : (st ++ [h]).Pairwise (· < ·) := List.pairwise_append.mpr ⟨s1, by simp, fun x hx y hy => by rw [List.mem_singleton.mp hy]; exact s2 x hx⟩
  obtain ⟨hlt, eg⟩ := List.getElem?_eq_some_iff.mp hg
  have hal : a ≤ st.length := by rw [List.length_append, List.length_singleton] at hlt; omega
  have hp := List.pairwise_iff_getElem.mp hs
  have e : st = st.take a ++ st.drop a := (List.take_append_drop a st).symm
  have f1 : (st.take a).filter (· < g) = st.take a := by
    rw [List.filter_eq_self]
    intro x hx
    obtain ⟨i, hi, ei⟩ := List.getElem_of_mem hx
    rw [List.length_take] at hi
    rw [List.getElem_take] at ei
    have := hp i a (by rw [List.length_append]; omega) hlt (by omega)
    rw [List.getElem_append_left (by omega), eg] at this
    rw [← ei]; exact decide_eq_true this
  have f2 : (st.drop a).filter (· < g) = [] := by
    rw [List.filter_eq_nil_iff]
    intro x hx
    obtain ⟨i, hi, ei⟩ := List.getElem_of_mem hx
    rw [List.length_drop] at hi
    rw [List.getElem_drop] at ei
    have hge : g ≤ x := by
      rcases Nat.eq_zero_or_pos i with z | z
      · subst z
        rw [List.getElem_append_left (by omega)] at eg
        rw [← ei, ← eg]; exact Nat.le_refl _
      · have := hp a (a + i) hlt (by rw [List.length_append]; omega) (by omega)
        rw [List.getElem_append_left (i := a + i) (by omega), eg, ei] at this
        omega
    simp; omega
  rw [show st.filter (· < g) = (st.take a ++ st.drop a).filter (· < g) by rw [← e], List.filter_append, f1, f2, List.append_nil]
theorem Path.planOk {sz : List Int} {m h : Nat} {st pl : List Nat} {c : Int} (p : Path sz m 0 h st pl c) : PlanOk 0 [] pl ∧ after [] pl = st := by
  induction p with
  | nil => exact ⟨True.intro, rfl⟩
  | @step h st pl c p a g ha hg ih =>
    obtain ⟨i1, i2⟩ := ih
    obtain ⟨s1, s2⟩ := p.sorted
    have hl := p.len
    have hm : g = h ∨ g ∈ st := by
      have := List.mem_of_getElem? hg
      rcases List.mem_append.mp this with q | q
      · exact .inr q
      · exact .inl (List.mem_singleton.mp q)
    have hle : g ≤ h := by
      rcases hm with q | q
      · omega
      · have := s2 g q; omega
    refine ⟨i1.snoc g (by omega) ?_, ?_⟩
    · rcases hm with q | q
      · left; omega
      · right; rw [i2]; exact q
    · unfold after
      rw [List.foldl_append]
      show (after [] pl).filter (· < g) ++ [g] = _
      rw [i2, filter_take s1 s2 hg]
theorem sorted_ext : ∀ (a b : List Nat), a.Pairwise (· < ·) → b.Pairwise (· < ·) → (∀ x, x ∈ a ↔ x ∈ b) → a = b
  | [], [], _, _, _ => rfl
  | [], y :: b, _, _, h => by have := (h y).mpr List.mem_cons_self; cases this
  | x :: a, [], _, _, h => by have := (h x).mp List.mem_cons_self; cases this
  | x :: a, y :: b, ha, hb, h => by
    rw [List.pairwise_cons] at ha hb
    have e : x = y := by
      have h1 := (h x).mp List.mem_cons_self
      have h2 := (h y).mpr List.mem_cons_self
      rcases List.mem_cons.mp h1 with q | q
      · exact q
      · rcases List.mem_cons.mp h2 with r | r
        · exact r.symm
        · have := hb.1 x q; have := ha.1 y r; omega
    subst e
    rw [sorted_ext a b ha.2 hb.2 fun z => ?_]
    have hz := h z
    rw [List.mem_cons, List.mem_cons] at hz
    constructor
    · intro q
      have := ha.1 z q
      rcases hz.mp (.inr q) with r | r
      · omega
      · exact r
    · intro q
      have := hb.1 z q
      rcases hz.mpr (.inr q) with r | r
      · omega
      · exact r
/-- a set of hours as a number -/
def bits (st : List Nat) : Nat := st.foldr (fun x acc => 2 ^ x ||| acc) 0
theorem bits_mem (i : Nat) : ∀ st : List Nat, (bits st).testBit i = decide (i ∈ st)
  | [] => by simp [bits]
  | x :: st => by
    have ih := bits_mem i st
    show (2 ^ x ||| bits st).testBit i = _
    rw [Nat.testBit_or, ih, Nat.testBit_two_pow]
    by_cases q : x = i
    · subst q; simp
    · have : ¬ i = x := fun z => q z.symm
      simp [q, this]
theorem bits_lt {n : Nat} : ∀ {st : List Nat}, (∀ x ∈ st, x < n) → bits st < 2 ^ n
  | [], _ => by show 0 < 2 ^ n; exact Nat.two_pow_pos n
  | x :: st, h => by
    show 2 ^ x ||| bits st < 2 ^ n
    exact Nat.or_lt_two_pow (Nat.pow_lt_pow_right (by decide) (h x List.mem_cons_self)) (bits_lt fun y hy => h y (List.mem_cons_of_mem _ hy))
theorem bits_inj {a b : List Nat} (ha : a.Pairwise (· < ·)) (hb : b.Pairwise (· < ·)) (e : bits a = bits b) : a = b :=
  sorted_ext a b ha hb fun x => by
    have := bits_mem x a
    rw [e, bits_mem x b] at this
    exact ⟨fun q => by rw [decide_eq_true q] at this; exact of_decide_eq_true this, fun q => by rw [decide_eq_true q] at this; exact of_decide_eq_true this.symm⟩
end PM
/-! Burdens: what no plan goes below. -/
namespace PB
open PM
/-- a run of a burden: first hour, last hour, what it bears -/
structure R where
  a : Nat
  e : Nat
  x : Int
def Tile : Nat → List R → Nat → Prop
  | lo, [], hi => lo = hi
  | lo, r :: rs, hi => r.a = lo ∧ lo ≤ r.e ∧ Tile (r.e + 1) rs hi
theorem Tile.le : ∀ {rs : List R} {lo hi : Nat}, Tile lo rs hi → lo ≤ hi
  | [], _, _, h => Nat.le_of_eq h
  | r :: rs, _, _, h => by have := Tile.le h.2.2; have := h.2.1; omega
theorem Tile.mem : ∀ {rs : List R} {lo hi : Nat}, Tile lo rs hi → ∀ r ∈ rs, lo ≤ r.a ∧ r.a ≤ r.e ∧ r.e < hi
  | r :: rs, lo, hi, h, q, hq => by
    have l := Tile.le h.2.2
    obtain ⟨h1, h2, h3⟩ := h
    rcases List.mem_cons.mp hq with rfl | hq
    · omega
    · have := Tile.mem h3 q hq; omega
theorem Tile.snoc : ∀ {rs : List R} {lo hi : Nat} {r : R}, Tile lo rs r.a → r.a ≤ r.e → hi = r.e + 1 → Tile lo (rs ++ [r]) hi
  | [], lo, hi, r, h, l, e => ⟨h.symm, by have : lo = r.a := h; omega, e.symm⟩
  | q :: rs, lo, hi, r, h, l, e => ⟨h.1, h.2.1, Tile.snoc h.2.2 l e⟩
theorem Tile.cut : ∀ {rs : List R} {lo hi g : Nat}, Tile lo rs hi → (g ∈ rs.map (·.a) ∨ g = hi) → Tile lo (rs.filter fun r => decide (r.a < g)) g
  | [], lo, hi, g, h, q => by
    rcases q with q | q
    · cases q
    · show lo = g; rw [q]; exact h
  | r :: rs, lo, hi, g, h, q => by
    have l := Tile.le h.2.2
    obtain ⟨h1, h2, h3⟩ := h
    by_cases c : r.a < g
    · rw [List.filter_cons_of_pos (by simpa using c)]
      refine ⟨h1, h2, Tile.cut h3 ?_⟩
      rcases q with q | q
      · rw [List.map_cons, List.mem_cons] at q
        rcases q with q | q
        · omega
        · exact .inl q
      · exact .inr q
    · rw [List.filter_cons_of_neg (by simpa using c)]
      have : rs.filter (fun r => decide (r.a < g)) = [] := by
        rw [List.filter_eq_nil_iff]
        intro x hx
        have := (h3.mem x hx).1
        simp; omega
      rw [this]
      show lo = g
      rcases q with q | q
      · rw [List.map_cons, List.mem_cons] at q
        rcases q with q | q
        · omega
        · obtain ⟨x, hx, e⟩ := List.mem_map.mp q
          have := (h3.mem x hx).1
          omega
      · omega
theorem Tile.map (f : R → R) (hf : ∀ r, (f r).a = r.a ∧ (f r).e = r.e) : ∀ {rs : List R} {lo hi : Nat}, Tile lo rs hi → Tile lo (rs.map f) hi
  | [], _, _, h => h
  | r :: rs, _, _, h => ⟨by rw [(hf r).1]; exact h.1, by rw [(hf r).2]; exact h.2.1, by rw [(hf r).2]; exact Tile.map f hf h.2.2⟩
/-- one run is free -/
theorem Tile.count {w : List Nat} : ∀ {rs : List R} {lo hi : Nat}, Tile lo rs hi → (∀ r ∈ rs, ∃ x ∈ w, r.a < x ∧ x ≤ r.e + 1) → rs.length ≤ (w.filter fun x => decide (lo < x)).length
  | [], _, _, _, _ => Nat.zero_le _
  | r :: rs, lo, hi, h, q => by
    obtain ⟨h1, h2, h3⟩ := h
    have ih := Tile.count h3 fun r hr => q r (List.mem_cons_of_mem _ hr)
    obtain ⟨x, hx, x1, x2⟩ := q r List.mem_cons_self
    have key : ∀ w : List Nat, x ∈ w → (w.filter fun y => decide (r.e + 1 < y)).length + 1 ≤ (w.filter fun y => decide (lo < y)).length := by
      intro w
      have mono : ∀ w : List Nat, (w.filter fun y => decide (r.e + 1 < y)).length ≤ (w.filter fun y => decide (lo < y)).length := fun w => by
        rw [← List.countP_eq_length_filter, ← List.countP_eq_length_filter]
        exact List.countP_mono_left fun y _ hy => by simp at hy ⊢; omega
      induction w with
      | nil => intro h; cases h
      | cons y w ih =>
        intro hw
        rcases List.mem_cons.mp hw with e | hw
        · subst e
          rw [List.filter_cons_of_neg (by simp; omega), List.filter_cons_of_pos (by simp; omega)]
          exact Nat.succ_le_succ (mono w)
        · have := ih hw
          by_cases c : r.e + 1 < y
          · rw [List.filter_cons_of_pos (by simpa using c), List.filter_cons_of_pos (by simp; omega)]
            exact Nat.succ_le_succ this
          · rw [List.filter_cons_of_neg (by simpa using c)]
            by_cases c2 : lo < y
            · rw [List.filter_cons_of_pos (by simpa using c2)]; simp; omega
            · rw [List.filter_cons_of_neg (by simpa using c2)]; exact this
    have := key w hx
    rw [List.length_cons]; omega
/-- free: no begin of w in (a, e + 1] -/
def free (w : List Nat) (r : R) : Bool := w.all fun x => !(decide (r.a < x) && decide (x ≤ r.e + 1))
theorem free_iff {w : List Nat} {r : R} : free w r = true ↔ ∀ x ∈ w, ¬ (r.a < x ∧ x ≤ r.e + 1) := by
  unfold free
  rw [List.all_eq_true]
  constructor
  · intro h x hx q; have := h x hx; simp at this; omega
  · intro h x hx; have := h x hx; simp; omega
theorem Tile.one_free {w : List Nat} {rs : List R} {hi : Nat} (h : Tile 0 rs hi) (h0 : 0 ∈ w) (hl : w.length ≤ rs.length) : ∃ r ∈ rs, free w r = true := by
  apply Classical.byContradiction
  intro no
  have q : ∀ r ∈ rs, ∃ x ∈ w, r.a < x ∧ x ≤ r.e + 1 := fun r hr => by
    apply Classical.byContradiction
    intro c
    exact no ⟨r, hr, free_iff.mpr fun x hx z => c ⟨x, hx, z⟩⟩
  have h1 := h.count q
  have h2 : (w.filter fun x => decide (0 < x)).length < w.length := by
    clear no q h1 hl
    induction w with
    | nil => cases h0
    | cons y w ih =>
      have := List.length_filter_le (fun x => decide (0 < x)) w
      rcases List.mem_cons.mp h0 with e | h0
      · subst e
        rw [List.filter_cons_of_neg (by simp), List.length_cons]; omega
      · have := ih h0
        by_cases c : 0 < y
        · rw [List.filter_cons_of_pos (by simpa using c), List.length_cons, List.length_cons]; omega
        · rw [List.filter_cons_of_neg (by simpa using c), List.length_cons]; omega
  omega
/-- the sizes of some hours -/
def WS (sz : List Int) (T : Nat → Bool) (lo : Nat) : Nat → Int
  | 0 => 0
  | n + 1 => (if T lo then sz.getD lo 0 else 0) + WS sz T (lo + 1) n
theorem WS_add (sz : List Int) (T : Nat → Bool) : ∀ (n m lo : Nat), WS sz T lo (n + m) = WS sz T lo n + WS sz T (lo + n) m
  | 0, m, lo => by rw [Nat.zero_add, WS, Int.zero_add, Nat.add_zero]
  | n + 1, m, lo => by
    rw [show n + 1 + m = (n + m) + 1 by omega, WS, WS_add sz T n m (lo + 1), WS, show lo + 1 + n = lo + (n + 1) by omega]
    omega
theorem getD_nonneg {sz : List Int} (h : ∀ s ∈ sz, 0 ≤ s) (t : Nat) : 0 ≤ sz.getD t 0 := by
  rw [List.getD_eq_getElem?_getD]
  cases q : sz[t]? with
  | none => exact Int.le_refl _
  | some v => exact h v (List.mem_of_getElem? q)
theorem WS_nonneg {sz : List Int} (h : ∀ s ∈ sz, 0 ≤ s) (T : Nat → Bool) : ∀ (n lo : Nat), 0 ≤ WS sz T lo n
  | 0, _ => Int.le_refl _
  | n + 1, lo => by
    have := WS_nonneg h T n (lo + 1)
    have := getD_nonneg h lo
    rw [WS]; split <;> omega
theorem WS_mono {sz : List Int} (h : ∀ s ∈ sz, 0 ≤ s) {T T' : Nat → Bool} : ∀ (n lo : Nat), (∀ t, lo ≤ t → t < lo + n → T t = true → T' t = true) → WS sz T lo n ≤ WS sz T' lo n
  | 0, _, _ => Int.le_refl _
  | n + 1, lo, q => by
    have := WS_mono h n (lo + 1) fun t h1 h2 => q t (by omega) (by omega)
    have := getD_nonneg h lo
    have := q lo (Nat.le_refl _) (by omega)
    rw [WS, WS]
    split
    · rename_i c; rw [if_pos (q lo (Nat.le_refl _) (by omega) c)]; omega
    · split <;> omega
theorem WS_full {sz : List Int} {T : Nat → Bool} : ∀ (n lo : Nat), (∀ t, lo ≤ t → t < lo + n → T t = true) → WS sz T lo n = WS sz (fun _ => true) lo n
  | 0, _, _ => rfl
  | n + 1, lo, q => by
    rw [WS, WS, WS_full n (lo + 1) fun t h1 h2 => q t (by omega) (by omega), q lo (Nat.le_refl _) (by omega)]
theorem drop_cons {sz : List Int} {g : Nat} (h : g < sz.length) : sz.drop g = sz.getD g 0 :: sz.drop (g + 1) := by
  rw [List.drop_eq_getElem_cons h, List.getD_eq_getElem?_getD, List.getElem?_eq_getElem h]; rfl
theorem S_WS {sz : List Int} : ∀ (n g : Nat), g + n ≤ sz.length → ((sz.drop g).take n).sum = WS sz (fun _ => true) g n
  | 0, g, _ => by rw [List.take_zero]; rfl
  | n + 1, g, h => by
    rw [drop_cons (by omega), List.take_succ_cons, List.sum_cons, S_WS n (g + 1) (by omega), WS, if_pos rfl]
theorem S_ws {sz : List Int} {g h : Nat} (l : g ≤ h) (l2 : h < sz.length) : S sz g h = WS sz (fun _ => true) g (h + 1 - g) := S_WS _ _ (by omega)
/-- runs that lie in T -/
theorem Tile.sum {sz : List Int} (hs : ∀ s ∈ sz, 0 ≤ s) {T : Nat → Bool} {P : R → Bool} : ∀ {rs : List R} {lo hi : Nat}, Tile lo rs hi → hi ≤ sz.length → (∀ r ∈ rs, P r = true → ∀ t, r.a ≤ t → t ≤ r.e → T t = true) →
    ((rs.filter P).map fun r => S sz r.a r.e).sum ≤ WS sz T lo (hi - lo)
  | [], lo, hi, _, _, _ => WS_nonneg hs _ _ _
  | r :: rs, lo, hi, h, l, q => by
    have l3 := Tile.le h.2.2
    obtain ⟨h1, h2, h3⟩ := h
    have ih := Tile.sum hs (P := P) h3 l fun r hr => q r (List.mem_cons_of_mem _ hr)
    have e : hi - lo = (r.e + 1 - lo) + (hi - (r.e + 1)) := by omega
    rw [e, WS_add, show lo + (r.e + 1 - lo) = r.e + 1 by omega]
    by_cases c : P r = true
    · rw [List.filter_cons_of_pos c, List.map_cons, List.sum_cons, h1, S_ws h2 (by omega), ← WS_full (T := T) _ _ fun t t1 t2 => q r List.mem_cons_self c t (by omega) (by omega)]
      omega
    · rw [List.filter_cons_of_neg c]
      have := WS_nonneg hs T (r.e + 1 - lo) lo
      omega
/-- a step of a wide plan, from the begins w to w': what it pays, by the hours of the runs that it writes -/
def Mv (sz : List Int) (h : Nat) (w w' : List Nat) (c : Int) : Prop :=
  ∃ T : Nat → Bool, T h = true ∧ WS sz T 0 (h + 1) ≤ c ∧ ∀ a e, a ≤ e → e < h → (∀ x ∈ w', ¬ (a < x ∧ x ≤ e + 1)) → ((∃ x ∈ w, a < x ∧ x ≤ e + 1) ∨ e + 1 = h) → ∀ t, a ≤ t → t ≤ e → T t = true
inductive Adv (sz : List Int) (m : Nat) : Nat → List Nat → Int → Prop
  | one {c : Int} (h : sz.getD 0 0 ≤ c) : Adv sz m 1 [0] c
  | step {h : Nat} {w w' : List Nat} {c c' : Int} (p : Adv sz m h w c) (sub : ∀ x ∈ w', x ∈ w ∨ x = h) (h0 : 0 ∈ w') (len : w'.length ≤ m) (mv : Mv sz h w w' c') : Adv sz m (h + 1) w' (c + c')
/-- a burden as it goes -/
inductive Bur (sz : List Int) (m : Nat) : Nat → List R → List Nat → List Int → Prop
  | nil : Bur sz m 0 [] [] []
  | step {h : Nat} {rs : List R} {pl : List Nat} {ps : List Int} (p : Bur sz m h rs pl ps) (r : Int) (g : Nat) (h0 : 0 ≤ r) (hr : 0 < r → rs.length = m) (hb : ∀ q ∈ rs, q.x + r ≤ S sz q.a q.e) (hg : g ∈ rs.map (·.a) ∨ g = h) :
      Bur sz m (h + 1) ((rs.filter fun q => decide (q.a < g)).map (fun q => ⟨q.a, q.e, q.x + r⟩) ++ [⟨g, h, 0⟩]) (pl ++ [g]) (ps ++ [r])
theorem Bur.tile {sz : List Int} {m h : Nat} {rs : List R} {pl : List Nat} {ps : List Int} (b : Bur sz m h rs pl ps) : Tile 0 rs h := by
  induction b with
  | nil => rfl
  | @step h rs pl ps p r g h0 hr hb hg ih =>
    have l : g ≤ h := by
      rcases hg with q | q
      · obtain ⟨x, hx, e⟩ := List.mem_map.mp q
        have := ih.mem x hx; omega
      · omega
    exact Tile.snoc (r := ⟨g, h, 0⟩) ((ih.cut hg).map (fun q => ⟨q.a, q.e, q.x + r⟩) fun _ => ⟨rfl, rfl⟩) l rfl
/-- what the covered runs have left -/
def left (sz : List Int) (h : Nat) (w : List Nat) (rs : List R) : Int := ((rs.filter fun q => decide (q.e + 1 < h) && free w q).map fun q => S sz q.a q.e - q.x).sum
theorem sumf (P : R → Bool) (f : R → Int) : ∀ rs : List R, ((rs.filter P).map f).sum = (rs.map fun q => if P q = true then f q else 0).sum
  | [] => rfl
  | r :: rs => by
    have ih := sumf P f rs
    by_cases c : P r = true
    · rw [List.filter_cons_of_pos c, List.map_cons, List.sum_cons, List.map_cons, List.sum_cons, ih, if_pos c]
    · rw [List.filter_cons_of_neg c, List.map_cons, List.sum_cons, ih, if_neg c]; omega
theorem sum_le {f g : R → Int} : ∀ {rs : List R}, (∀ q ∈ rs, f q ≤ g q) → (rs.map f).sum ≤ (rs.map g).sum
  | [], _ => Int.le_refl _
  | r :: rs, h => by
    have ih := sum_le fun q hq => h q (List.mem_cons_of_mem r hq)
    have := h r List.mem_cons_self
    rw [List.map_cons, List.map_cons, List.sum_cons, List.sum_cons]; omega
theorem sum_plus (f g : R → Int) : ∀ rs : List R, (rs.map fun q => f q + g q).sum = (rs.map f).sum + (rs.map g).sum
  | [] => rfl
  | r :: rs => by
    have ih := sum_plus f g rs
    rw [List.map_cons, List.map_cons, List.map_cons, List.sum_cons, List.sum_cons, List.sum_cons, ih]; omega
theorem sum_ge {f : R → Int} {q : R} : ∀ {rs : List R}, (∀ q ∈ rs, 0 ≤ f q) → q ∈ rs → f q ≤ (rs.map f).sum
  | r :: rs, h, hq => by
    rw [List.map_cons, List.sum_cons]
    have h1 := h r List.mem_cons_self
    rcases List.mem_cons.mp hq with e | hq
    · subst e
      have : 0 ≤ (rs.map f).sum := by
        have := sum_le (f := fun _ => 0) (g := f) fun x hx => h x (List.mem_cons_of_mem _ hx)
        have z : ∀ l : List R, (l.map fun _ => (0 : Int)).sum = 0 := fun l => by
          induction l with
          | nil => rfl
          | cons a l ih => rw [List.map_cons, List.sum_cons, ih]; rfl
        rw [z] at this; exact this
      omega
    · have := sum_ge (fun x hx => h x (List.mem_cons_of_mem _ hx)) hq
      omega
theorem Bur.borne {sz : List Int} (hs : ∀ s ∈ sz, 0 ≤ s) {m h : Nat} {rs : List R} {pl : List Nat} {ps : List Int} (b : Bur sz m h rs pl ps) (hl : h ≤ sz.length) : ∀ q ∈ rs, 0 ≤ q.x ∧ q.x ≤ S sz q.a q.e := by
  induction b with
  | nil => intro q hq; cases hq
  | @step h rs pl ps p r g h0 hr hb hg ih =>
    intro q hq
    rcases List.mem_append.mp hq with hq | hq
    · obtain ⟨x, hx, rfl⟩ := List.mem_map.mp hq
      have hx := (List.mem_filter.mp hx).1
      have := ih (by omega) x hx
      exact ⟨by show 0 ≤ x.x + r; omega, hb x hx⟩
    · rw [List.mem_singleton.mp hq]
      refine ⟨Int.le_refl _, ?_⟩
      have l : g ≤ h := by
        rcases hg with z | z
        · obtain ⟨x, hx, e⟩ := List.mem_map.mp z
          have := p.tile.mem x hx; omega
        · omega
      show 0 ≤ S sz g h
      rw [S_ws l (by omega)]
      exact WS_nonneg hs _ _ _
/-- THE BOUND: the raises and the sizes are no more than any wide plan pays -/
theorem Adv.bound {sz : List Int} (hs : ∀ s ∈ sz, 0 ≤ s) {m : Nat} (hm : 1 ≤ m) {h : Nat} {w : List Nat} {c : Int} (a : Adv sz m h w c) : ∀ {rs : List R} {pl : List Nat} {ps : List Int}, Bur sz m h rs pl ps → h ≤ sz.length →
    ps.sum + left sz h w rs + WS sz (fun _ => true) 0 h ≤ c := by
  induction a with
  | @one c h =>
    intro rs pl ps b hl
    cases b with
    | @step _ rs pl ps p r g h0 hr hb hg =>
      cases p
      have : r = 0 := by
        apply Classical.byContradiction
        intro z
        have := hr (by omega)
        simp at this; omega
      subst this
      have e : left sz 1 [0] (([].filter fun q : R => decide (q.a < g)).map (fun q => ⟨q.a, q.e, q.x + 0⟩) ++ [⟨g, 0, 0⟩]) = 0 := by simp [left]
      rw [e]
      simp [WS]
      exact h
  | @step h w w' c c' p sub h0 len mv ih =>
    intro rs0 pl0 ps0 b hl
    cases b with
    | @step _ rs pl ps pb r g r0 hr hb hg =>
      have ih := ih pb (by omega)
      have tl := pb.tile
      have bo := pb.borne hs (by omega)
      obtain ⟨T, Th, Tc, Tm⟩ := mv
      -- what comes newly into free stretches
      have n1 := Tile.sum hs (T := T) (P := fun q => free w' q && !(decide (q.e + 1 < h) && free w q)) tl (by omega) fun q hq hP t t1 t2 => by
        rw [Bool.and_eq_true] at hP
        obtain ⟨f1, f2⟩ := hP
        have m1 := tl.mem q hq
        refine Tm q.a q.e m1.2.1 m1.2.2 (free_iff.mp f1) ?_ t t1 t2
        by_cases c : q.e + 1 < h
        · left
          apply Classical.byContradiction
          intro no
          have : free w q = true := free_iff.mpr fun x hx z => no ⟨x, hx, z⟩
          simp [c, this] at f2
        · right; omega
      rw [Nat.sub_zero] at n1
      have n2 : WS sz T 0 (h + 1) = WS sz T 0 h + sz.getD h 0 := by
        rw [WS_add sz T h 1 0]
        simp [WS, Th]
      have n3 : WS sz (fun _ => true) 0 (h + 1) = WS sz (fun _ => true) 0 h + sz.getD h 0 := by
        rw [WS_add sz _ h 1 0]
        simp [WS]
      -- step A
      have A : (rs.map fun q => if free w' q = true then S sz q.a q.e - q.x else 0).sum ≤ left sz h w rs + WS sz T 0 h := by
        refine Int.le_trans ?_ (Int.add_le_add_left n1 _)
        unfold left
        rw [sumf, sumf, ← sum_plus]
        refine sum_le fun q hq => ?_
        have := bo q hq
        by_cases c1 : free w' q = true
        · by_cases c2 : (decide (q.e + 1 < h) && free w q) = true
          · rw [if_pos c1, if_pos c2, if_neg (by simp [c1, c2])]; omega
          · rw [if_pos c1, if_neg c2, if_pos (by rw [c1, Bool.true_and, Bool.not_eq_true']; exact Bool.eq_false_iff.mpr c2)]; omega
        · rw [if_neg c1]
          split <;> split <;> omega
      -- step B
      have B : r + (rs.map fun q => if free w' q = true then S sz q.a q.e - (q.x + r) else 0).sum ≤ (rs.map fun q => if free w' q = true then S sz q.a q.e - q.x else 0).sum := by
        have e : (rs.map fun q => if free w' q = true then S sz q.a q.e - q.x else 0).sum = (rs.map fun q => if free w' q = true then S sz q.a q.e - (q.x + r) else 0).sum + (rs.map fun q => if free w' q = true then r else 0).sum := by
          rw [← sum_plus]
          congr 1
          refine List.map_congr_left fun q _ => ?_
          split <;> omega
        rw [e]
        by_cases z : 0 < r
        · obtain ⟨q, hq, f⟩ := tl.one_free (w := w') h0 (by rw [hr z]; exact len)
          have := sum_ge (f := fun q => if free w' q = true then r else 0) (fun q _ => by split <;> omega) hq
          rw [if_pos f] at this
          omega
        · have : r = 0 := by omega
          subst this
          have := sum_le (rs := rs) (f := fun _ => 0) (g := fun q => if free w' q = true then (0 : Int) else 0) fun q _ => by split <;> omega
          have z : ∀ l : List R, (l.map fun _ => (0 : Int)).sum = 0 := fun l => by
            induction l with
            | nil => rfl
            | cons a l ih => rw [List.map_cons, List.sum_cons, ih]; rfl
          rw [z] at this
          omega
      -- step C
      have C : left sz (h + 1) w' ((rs.filter fun q => decide (q.a < g)).map (fun q => ⟨q.a, q.e, q.x + r⟩) ++ [⟨g, h, 0⟩]) ≤ (rs.map fun q => if free w' q = true then S sz q.a q.e - (q.x + r) else 0).sum := by
        unfold left
        rw [List.filter_append, List.map_append, List.sum_append]
        have e1 : ([⟨g, h, 0⟩] : List R).filter (fun q => decide (q.e + 1 < h + 1) && free w' q) = [] := by simp
        rw [e1, List.filter_map, List.map_map, List.filter_filter]
        show ((rs.filter _).map _).sum + 0 ≤ _
        rw [Int.add_zero, sumf]
        refine sum_le fun q hq => ?_
        have := hb q hq
        by_cases c1 : free w' q = true
        · rw [if_pos c1]
          split
          · exact Int.le_refl _
          · omega
        · rw [if_neg c1, if_neg ?_]
          · exact Int.le_refl _
          · intro z
            have z : ((decide (q.e + 1 < h + 1) && free w' ⟨q.a, q.e, q.x + r⟩) && decide (q.a < g)) = true := z
            rw [Bool.and_eq_true, Bool.and_eq_true] at z
            exact c1 z.1.2
      rw [List.sum_append, List.sum_singleton, n3]
      omega
end PB
namespace PB
open PM
theorem WS_zero {sz : List Int} {T : Nat → Bool} : ∀ (n lo : Nat), (∀ t, lo ≤ t → t < lo + n → T t = false) → WS sz T lo n = 0
  | 0, _, _ => rfl
  | n + 1, lo, q => by
    rw [WS, q lo (Nat.le_refl _) (by omega), WS_zero n (lo + 1) fun t h1 h2 => q t (by omega) (by omega)]; rfl
theorem adv_path {sz : List Int} {m : Nat} : ∀ {h : Nat} {st pl : List Nat} {c : Int}, Path sz m 0 h st pl c → 1 ≤ h → h ≤ sz.length → Adv sz m h st c
  | _, _, _, _, .nil, h1, _ => absurd h1 (by decide)
  | _, _, _, _, .step (h := h) (st := st) (pl := pl) (c := c) p a g ha hg, h1, h2 => by
    by_cases q : h = 0
    · subst q
      cases p with
      | nil =>
        have : a = 0 ∧ g = 0 := by
          cases a with
          | zero => simp at hg; exact ⟨rfl, hg.symm⟩
          | succ a => simp at hg
        obtain ⟨rfl, rfl⟩ := this
        refine Adv.one ?_
        rw [S_ws (Nat.le_refl _) (by omega)]
        simp [WS]
    · have ih := adv_path p (by omega) (by omega)
      obtain ⟨_, t, st1, pl1, c1, st2, pl2, c2, _, _, _, _, e0, _⟩ := p.split (by omega)
      have so := p.sorted
      have hg' : g ∈ st ∨ g = h := by
        have := List.mem_of_getElem? hg
        rcases List.mem_append.mp this with z | z
        · exact .inl z
        · exact .inr (List.mem_singleton.mp z)
      have gle : g ≤ h := by
        rcases hg' with z | z
        · exact Nat.le_of_lt (so.2 g z)
        · omega
      refine .step ih (fun x hx => ?_) ?_ ?_ ?_
      · rcases List.mem_append.mp hx with z | z
        · exact .inl (List.mem_of_mem_take z)
        · rw [List.mem_singleton.mp z]; exact hg'
      · subst e0
        cases a with
        | zero => simp at hg; subst hg; simp
        | succ a => simp
      · rw [List.length_append, List.length_take, List.length_singleton]; omega
      · refine ⟨fun t => decide (g ≤ t), by simpa using gle, ?_, fun a' e ae el nw old t t1 t2 => ?_⟩
        · have e : h + 1 = g + (h + 1 - g) := by omega
          rw [e, WS_add, WS_zero g 0 fun t _ t2 => by simp; omega, WS_full _ _ fun t t1 _ => by simpa using (show g ≤ t by omega), Int.zero_add, Nat.zero_add, S_ws gle (by omega)]
          exact Int.le_refl _
        · have gn : ¬ (a' < g ∧ g ≤ e + 1) := nw g (List.mem_append_right _ (by simp))
          have ga : g ≤ a' := by
            rcases old with ⟨x, hx, x1, x2⟩ | z
            · have xn : x ∉ st.take a ++ [g] := fun z => nw x z ⟨x1, x2⟩
              have gx : g < x := by
                rcases hg' with z | z
                · -- x stands behind place a
                  obtain ⟨i, hi, ei⟩ := List.mem_iff_getElem.mp hx
                  have hal : a < st.length := by
                    apply Classical.byContradiction
                    intro c
                    have : (st ++ [h])[a]? = some g := hg
                    rw [List.getElem?_append_right (by omega)] at this
                    have l := (List.getElem?_eq_some_iff.mp this).1
                    simp at l
                    have : a = st.length := by omega
                    apply xn
                    rw [this, List.take_length]
                    exact List.mem_append_left _ hx
                  have ga : st[a] = g := by
                    rw [List.getElem?_append_left hal] at hg
                    exact (List.getElem?_eq_some_iff.mp hg).2
                  have ia : a ≤ i := by
                    apply Classical.byContradiction
                    intro c
                    apply xn
                    refine List.mem_append_left _ (List.mem_iff_getElem.mpr ⟨i, by rw [List.length_take]; omega, ?_⟩)
                    rw [List.getElem_take]; exact ei
                  by_cases c : i = a
                  · subst c
                    exfalso; apply xn
                    rw [← ei, ga]; simp
                  · have := List.pairwise_iff_getElem.mp so.1 a i hal hi (by omega)
                    omega
                · exfalso
                  have hal : a = st.length := by
                    have l := (List.getElem?_eq_some_iff.mp hg).1
                    rw [List.length_append, List.length_singleton] at l
                    apply Classical.byContradiction
                    intro c
                    rw [List.getElem?_append_left (by omega)] at hg
                    have := so.2 g (List.mem_of_getElem? hg)
                    omega
                  apply xn
                  rw [hal, List.take_length]
                  exact List.mem_append_left _ hx
              omega
            · omega
          simp; omega
theorem left_nonneg {sz : List Int} (hs : ∀ s ∈ sz, 0 ≤ s) {m : Nat} {rs : List R} {pl : List Nat} {ps : List Int} (b : Bur sz m sz.length rs pl ps) (st : List Nat) : 0 ≤ left sz sz.length st rs := by
  have bo := b.borne hs (Nat.le_refl _)
  unfold left
  rw [sumf]
  have := sum_le (rs := rs) (f := fun _ => 0) (g := fun q => if (decide (q.e + 1 < sz.length) && free st q) = true then S sz q.a q.e - q.x else 0) fun q hq => by
    have := bo q hq
    split <;> omega
  have z : ∀ l : List R, (l.map fun _ => (0 : Int)).sum = 0 := fun l => by
    induction l with
    | nil => rfl
    | cons a l ih => rw [List.map_cons, List.sum_cons, ih]; rfl
  rw [z] at this
  exact this
theorem WS_all (sz : List Int) : WS sz (fun _ => true) 0 sz.length = sz.sum := by
  rw [← S_WS sz.length 0 (by omega)]; simp
/-- no plan costs less than a burden weighs -/
theorem Bur.plan {sz : List Int} (hs : ∀ s ∈ sz, 0 ≤ s) {m : Nat} (hm : 1 ≤ m) {rs : List R} {pl : List Nat} {ps : List Int} (b : Bur sz m sz.length rs pl ps) (h1 : 1 ≤ sz.length) {v : Int} (l : Least sz m 0 sz.length v) : ps.sum + sz.sum ≤ v := by
  obtain ⟨⟨st, pl', p⟩, _⟩ := l
  have a := (adv_path p h1 (Nat.le_refl _)).bound hs hm b (Nat.le_refl _)
  have n := left_nonneg hs b st
  have e := WS_all sz
  omega
end PB
namespace PB
open PM
/-- the runs of a row of begins, behind hour h -/
def runs : List Nat → Nat → List (Nat × Nat)
  | [], _ => []
  | [b], h => [(b, h)]
  | b :: b' :: r, h => (b, b' - 1) :: runs (b' :: r) h
theorem runs_mem : ∀ {w : List Nat} {h : Nat}, w.Pairwise (· < ·) → (∀ x ∈ w, x ≤ h) → ∀ j ∈ runs w h, j.1 ∈ w ∧ j.1 ≤ j.2 ∧ j.2 ≤ h ∧ ∀ z ∈ w, ¬ (j.1 < z ∧ z ≤ j.2)
  | [], _, _, _, j, hj => by cases hj
  | [b], h, _, l, j, hj => by
    rw [runs, List.mem_singleton] at hj
    subst hj
    refine ⟨by simp, l b (by simp), Nat.le_refl _, fun z hz => ?_⟩
    rw [List.mem_singleton.mp hz]; dsimp only; omega
  | b :: b' :: r, h, so, l, j, hj => by
    rw [List.pairwise_cons] at so
    obtain ⟨s1, s2⟩ := so
    have bb := s1 b' (by simp)
    rw [runs, List.mem_cons] at hj
    rcases hj with rfl | hj
    · refine ⟨by simp, by dsimp only; omega, ?_, fun z hz => ?_⟩
      · have := l b' (by simp); dsimp only; omega
      · dsimp only
        rcases List.mem_cons.mp hz with rfl | hz
        · omega
        · rcases List.mem_cons.mp hz with rfl | hz
          · omega
          · rw [List.pairwise_cons] at s2
            have := s2.1 z hz; omega
    · obtain ⟨h1, h2, h3, h4⟩ := runs_mem s2 (fun x hx => l x (List.mem_cons_of_mem _ hx)) j hj
      refine ⟨List.mem_cons_of_mem _ h1, h2, h3, fun z hz => ?_⟩
      rcases List.mem_cons.mp hz with rfl | hz
      · have := s1 _ h1; omega
      · exact h4 z hz
theorem runs_at : ∀ {w : List Nat} {h b : Nat} (a : Nat), w.Pairwise (· < ·) → (∀ x ∈ w, x ≤ h) → w.head? = some b → b ≤ a → a ≤ h → ∃ j ∈ runs w h, j.1 ≤ a ∧ a ≤ j.2 ∧ (j.2 = h ∨ j.2 + 1 ∈ w)
  | [], _, _, _, _, _, e, _, _ => by cases e
  | [b], h, b0, a, _, l, e, h1, h2 => by
    cases e
    exact ⟨(b, h), by simp [runs], h1, h2, .inl rfl⟩
  | b :: b' :: r, h, b0, a, so, l, e, h1, h2 => by
    cases e
    rw [List.pairwise_cons] at so
    obtain ⟨s1, s2⟩ := so
    have bb := s1 b' (by simp)
    by_cases c : a < b'
    · exact ⟨(b, b' - 1), by simp [runs], h1, by dsimp only; omega, .inr (by rw [show b' - 1 + 1 = b' by omega]; simp)⟩
    · obtain ⟨j, hj, j1, j2, j3⟩ := runs_at (b := b') a s2 (fun x hx => l x (List.mem_cons_of_mem _ hx)) rfl (by omega) h2
      refine ⟨j, by rw [runs]; exact List.mem_cons_of_mem _ hj, j1, j2, ?_⟩
      rcases j3 with z | z
      · exact .inl z
      · exact .inr (List.mem_cons_of_mem _ z)
/-- what a row writes that does not stand -/
def news (ahead : List (Nat × Nat)) (w : List Nat) (h : Nat) : List (Nat × Nat) := (runs w h).filter fun j => !decide (j ∈ ahead)
def cost (sz : List Int) (js : List (Nat × Nat)) : Int := (js.map fun j => S sz j.1 j.2).sum
def payL (sz : List Int) : Nat → List (Nat × Nat) → List (List Nat) → Int
  | _, _, [] => 0
  | h, ahead, w :: ws => cost sz (news ahead w h) + payL sz (h + 1) (runs w h) ws
def lastRuns : Nat → List (Nat × Nat) → List (List Nat) → List (Nat × Nat)
  | _, ahead, [] => ahead
  | h, _, w :: ws => lastRuns (h + 1) (runs w h) ws
theorem lastRuns_snoc (w : List Nat) : ∀ (ws : List (List Nat)) (h : Nat) (ahead : List (Nat × Nat)), lastRuns h ahead (ws ++ [w]) = runs w (h + ws.length)
  | [], h, ahead => rfl
  | v :: ws, h, ahead => by
    rw [List.cons_append, lastRuns, lastRuns_snoc w ws, List.length_cons, show h + 1 + ws.length = h + (ws.length + 1) by omega]
theorem payL_snoc (sz : List Int) (w : List Nat) : ∀ (ws : List (List Nat)) (h : Nat) (ahead : List (Nat × Nat)), payL sz h ahead (ws ++ [w]) = payL sz h ahead ws + cost sz (news (lastRuns h ahead ws) w (h + ws.length))
  | [], h, ahead => by simp [payL, lastRuns]
  | v :: ws, h, ahead => by
    rw [List.cons_append, payL, payL_snoc sz w ws, payL, lastRuns, List.length_cons, show h + 1 + ws.length = h + (ws.length + 1) by omega, Int.add_assoc]
/-- a wide plan, with its last row -/
inductive Wd (m : Nat) : Nat → List (List Nat) → List Nat → Prop
  | one : Wd m 1 [[0]] [0]
  | step {h : Nat} {W : List (List Nat)} {w s : List Nat} (p : Wd m h W w) (sub : s.Sublist (w.tail ++ [h])) (len : s.length + 1 ≤ m) : Wd m (h + 1) (W ++ [0 :: s]) (0 :: s)
theorem Wd.row {m h : Nat} {W : List (List Nat)} {w : List Nat} (p : Wd m h W w) : 1 ≤ h ∧ W.length = h ∧ w.head? = some 0 ∧ w.Pairwise (· < ·) ∧ (∀ x ∈ w, x < h) := by
  induction p with
  | one => simp
  | @step h W w s p sub len ih =>
    obtain ⟨h1, h2, h3, h4, h5⟩ := ih
    have t : ∀ x ∈ w.tail, 0 < x ∧ x < h := by
      cases w with
      | nil => intro x hx; cases hx
      | cons b r =>
        cases h3
        intro x hx
        exact ⟨(List.pairwise_cons.mp h4).1 x hx, h5 x (List.mem_cons_of_mem _ hx)⟩
    have tp : (w.tail ++ [h]).Pairwise (· < ·) := by
      rw [List.pairwise_append]
      refine ⟨h4.sublist (List.tail_sublist w), by simp, fun x hx y hy => ?_⟩
      rw [List.mem_singleton.mp hy]; exact (t x hx).2
    have ts : ∀ x ∈ w.tail ++ [h], 0 < x ∧ x ≤ h := fun x hx => by
      rcases List.mem_append.mp hx with z | z
      · have := t x z; omega
      · rw [List.mem_singleton.mp z]; omega
    refine ⟨by omega, by rw [List.length_append, h2]; rfl, rfl, ?_, fun x hx => ?_⟩
    · rw [List.pairwise_cons]
      exact ⟨fun x hx => (ts x (sub.subset hx)).1, tp.sublist sub⟩
    · rcases List.mem_cons.mp hx with rfl | hx
      · omega
      · have := ts x (sub.subset hx); omega
theorem Wd.last {m h : Nat} {W : List (List Nat)} {w : List Nat} (p : Wd m h W w) : lastRuns 0 [] W = runs w (h - 1) := by
  cases p with
  | one => rfl
  | step p sub len =>
    rw [lastRuns_snoc, p.row.2.1, Nat.zero_add]; rfl
theorem WS_or {sz : List Int} (hs : ∀ s ∈ sz, 0 ≤ s) (T T' : Nat → Bool) : ∀ (n lo : Nat), WS sz (fun t => T t || T' t) lo n ≤ WS sz T lo n + WS sz T' lo n
  | 0, _ => by simp [WS]
  | n + 1, lo => by
    have := WS_or hs T T' n (lo + 1)
    have := getD_nonneg hs lo
    rw [WS, WS, WS]
    cases T lo <;> cases T' lo <;> simp only [Bool.or_false, Bool.or_true, if_true, if_false, Bool.false_eq_true] <;> omega
def inR (j : Nat × Nat) (t : Nat) : Bool := decide (j.1 ≤ t) && decide (t ≤ j.2)
theorem WS_in {sz : List Int} {j : Nat × Nat} {n : Nat} (h1 : j.1 ≤ j.2) (h2 : j.2 < n) (h3 : n ≤ sz.length) : WS sz (inR j) 0 n = S sz j.1 j.2 := by
  have e : n = j.1 + ((j.2 + 1 - j.1) + (n - (j.2 + 1))) := by omega
  rw [e, WS_add, WS_add, WS_zero j.1 0 fun t _ t2 => by simp [inR]; omega, WS_zero (n - (j.2 + 1)) _ fun t t1 _ => by simp [inR]; omega, WS_full _ _ fun t t1 t2 => by simp [inR]; omega, S_ws h1 (by omega)]
  rw [Nat.zero_add]; omega
theorem WS_any {sz : List Int} (hs : ∀ s ∈ sz, 0 ≤ s) {n : Nat} (h3 : n ≤ sz.length) : ∀ js : List (Nat × Nat), (∀ j ∈ js, j.1 ≤ j.2 ∧ j.2 < n) → WS sz (fun t => js.any fun j => inR j t) 0 n ≤ cost sz js
  | [], _ => by
    exact Int.le_of_eq (WS_zero _ _ fun t _ _ => rfl)
  | j :: js, h => by
    have ih := WS_any hs h3 js fun x hx => h x (List.mem_cons_of_mem _ hx)
    obtain ⟨h1, h2⟩ := h j List.mem_cons_self
    have := WS_or hs (inR j) (fun t => js.any fun j => inR j t) n 0
    rw [WS_in h1 h2 h3] at this
    show WS sz (fun t => inR j t || js.any fun j => inR j t) 0 n ≤ ((j :: js).map fun j => S sz j.1 j.2).sum
    rw [List.map_cons, List.sum_cons]
    have ih : WS sz (fun t => js.any fun j => inR j t) 0 n ≤ (js.map fun j => S sz j.1 j.2).sum := ih
    omega
theorem Wd.adv {sz : List Int} (hs : ∀ s ∈ sz, 0 ≤ s) {m h : Nat} {W : List (List Nat)} {w : List Nat} (p : Wd m h W w) (hl : h ≤ sz.length) : Adv sz m h w (payL sz 0 [] W) := by
  induction p with
  | one =>
    refine .one ?_
    simp [payL, news, runs, cost]
    rw [S_ws (Nat.le_refl _) (by omega)]
    simp [WS]
  | @step h W w s p sub len ih =>
    obtain ⟨h1, h2, h3, h4, h5⟩ := p.row
    obtain ⟨_, _, _, r4, r5⟩ := (Wd.step p sub len).row
    rw [payL_snoc, p.last, h2, Nat.zero_add]
    have le' : ∀ x ∈ 0 :: s, x ≤ h := fun x hx => by have := r5 x hx; omega
    have le0 : ∀ x ∈ w, x ≤ h - 1 := fun x hx => by have := h5 x hx; omega
    have rm := runs_mem r4 le'
    have ro := runs_mem h4 le0
    have w0 : 0 ∈ w := by
      cases w with
      | nil => cases h3
      | cons b r => cases h3; simp
    refine .step (ih (by omega)) (fun x hx => ?_) (by simp) (by rw [List.length_cons]; exact len) ?_
    · rcases List.mem_cons.mp hx with rfl | hx
      · exact .inl w0
      · rcases List.mem_append.mp (sub.subset hx) with z | z
        · exact .inl (List.mem_of_mem_tail z)
        · exact .inr (List.mem_singleton.mp z)
    · have nw : ∀ j ∈ runs (0 :: s) h, j ∉ runs w (h - 1) → j ∈ news (runs w (h - 1)) (0 :: s) h := fun j hj n => List.mem_filter.mpr ⟨hj, by simpa using n⟩
      refine ⟨fun t => (news (runs w (h - 1)) (0 :: s) h).any fun j => inR j t, ?_, WS_any hs hl _ fun j hj => ?_, fun a e ae el fr old t t1 t2 => ?_⟩
      · obtain ⟨j, hj, j1, j2, _⟩ := runs_at (b := 0) h r4 le' rfl (Nat.zero_le _) (Nat.le_refl _)
        refine List.any_eq_true.mpr ⟨j, nw j hj fun z => ?_, by simp [inR, j1, j2]⟩
        have := (ro j z).2.2.1; omega
      · have := rm j (List.mem_filter.mp hj).1
        omega
      · obtain ⟨j, hj, j1, j2, j3⟩ := runs_at (b := 0) a r4 le' rfl (Nat.zero_le _) (by omega)
        have je : e + 1 ≤ j.2 := by
          rcases j3 with z | z
          · omega
          · have := fr _ z; omega
        refine List.any_eq_true.mpr ⟨j, nw j hj fun z => ?_, by simp [inR]; omega⟩
        have := ro j z
        rcases old with ⟨x, hx, x1, x2⟩ | q
        · exact this.2.2.2 x hx (by omega)
        · omega
end PB
/-! The keeper by credits costs at most so many times what its burden weighs. -/
namespace PB
open PM
def pot (sz : List Int) : Nat → List R → Int
  | _, [] => 0
  | k, q :: rs => k * S sz q.a q.e + q.x + pot sz (k + 1) rs
def nx (rs : List R) (g h : Nat) (r : Int) : List R := (rs.filter fun q => decide (q.a < g)).map (fun q => ⟨q.a, q.e, q.x + r⟩) ++ [⟨g, h, 0⟩]
theorem pot_ge {sz : List Int} (hs : ∀ s ∈ sz, 0 ≤ s) : ∀ (rs : List R) (k : Nat) (lo hi : Nat), Tile lo rs hi → hi ≤ sz.length → (∀ q ∈ rs, 0 ≤ q.x) → k * WS sz (fun _ => true) lo (hi - lo) ≤ pot sz k rs
  | [], k, lo, hi, t, _, _ => by
    have : lo = hi := t
    subst this
    rw [Nat.sub_self]; simp [WS, pot]
  | q :: rs, k, lo, hi, t, l, hx => by
    have l3 := Tile.le t.2.2
    obtain ⟨t1, t2, t3⟩ := t
    have ih := pot_ge hs rs (k + 1) _ hi t3 l fun x h => hx x (List.mem_cons_of_mem _ h)
    have := hx q List.mem_cons_self
    rw [pot, show hi - lo = (q.e + 1 - lo) + (hi - (q.e + 1)) by omega, WS_add, show lo + (q.e + 1 - lo) = q.e + 1 by omega, t1, S_ws t2 (by omega), Int.mul_add]
    have n := WS_nonneg hs (fun _ => true) (hi - (q.e + 1)) (q.e + 1)
    push_cast at ih
    rw [Int.add_mul] at ih
    omega
/-- the step: join from a full run on -/
theorem pot_join {sz : List Int} (hs : ∀ s ∈ sz, 0 ≤ s) {g h : Nat} {r : Int} (r0 : 0 ≤ r) (hl : h < sz.length) : ∀ (rs : List R) (k lo : Nat), Tile lo rs h → (∀ q ∈ rs, 0 ≤ q.x) → (∃ q ∈ rs, q.a = g ∧ q.x + r = S sz q.a q.e) →
    pot sz k (nx rs g h r) + S sz g h ≤ pot sz k rs + rs.length * r + (k + rs.length) * sz.getD h 0
  | [], k, lo, t, hx, ⟨q, hq, _⟩ => by cases hq
  | q :: rs, k, lo, t, hx, hf => by
    have s0 := getD_nonneg hs h
    have tt := t
    obtain ⟨t1, t2, t3⟩ := t
    have l3 := Tile.le t3
    have q0 := hx q List.mem_cons_self
    by_cases c : q.a < g
    · have hf' : ∃ q ∈ rs, q.a = g ∧ q.x + r = S sz q.a q.e := by
        obtain ⟨p, hp, e⟩ := hf
        rcases List.mem_cons.mp hp with rfl | hp
        · omega
        · exact ⟨p, hp, e⟩
      have ih := pot_join hs r0 hl rs (k + 1) _ t3 (fun x h => hx x (List.mem_cons_of_mem _ h)) hf'
      have e : nx (q :: rs) g h r = ⟨q.a, q.e, q.x + r⟩ :: nx rs g h r := by
        unfold nx
        rw [List.filter_cons_of_pos (by simpa using c), List.map_cons, List.cons_append]
      rw [e, pot, pot, List.length_cons]
      dsimp only
      push_cast at ih ⊢
      rw [show (k : Int) + 1 + rs.length = k + (rs.length + 1) by omega] at ih
      rw [Int.add_mul (rs.length : Int) 1 r]
      omega
    · have ga : q.a = g ∧ q.x + r = S sz q.a q.e := by
        obtain ⟨p, hp, e, f⟩ := hf
        rcases List.mem_cons.mp hp with rfl | hp
        · exact ⟨e, f⟩
        · have := (t3.mem p hp).1; omega
      have e : nx (q :: rs) g h r = [⟨g, h, 0⟩] := by
        unfold nx
        have : (q :: rs).filter (fun q => decide (q.a < g)) = [] := by
          rw [List.filter_eq_nil_iff]
          intro x hx
          rcases List.mem_cons.mp hx with rfl | hx
          · simpa using c
          · have := (t3.mem x hx).1; simp; omega
        rw [this]; rfl
      have pg := pot_ge hs rs (k + 1) _ h t3 (by omega) fun x h => hx x (List.mem_cons_of_mem _ h)
      rw [e, pot, pot, pot, List.length_cons]
      dsimp only
      have sg : S sz g h = S sz q.a q.e + (WS sz (fun _ => true) (q.e + 1) (h - (q.e + 1)) + sz.getD h 0) := by
        rw [← ga.1, S_ws (show q.a ≤ h by omega) hl, S_ws (show q.a ≤ q.e by omega) (by omega), show h + 1 - q.a = (q.e + 1 - q.a) + ((h - (q.e + 1)) + 1) by omega, WS_add, WS_add, show q.a + (q.e + 1 - q.a) = q.e + 1 by omega, show q.e + 1 + (h - (q.e + 1)) = h by omega]
        simp [WS]
      rw [sg]
      push_cast at pg ⊢
      have e1 : ((k : Int) + 1) * WS sz (fun _ => true) (q.e + 1) (h - (q.e + 1)) = k * WS sz (fun _ => true) (q.e + 1) (h - (q.e + 1)) + WS sz (fun _ => true) (q.e + 1) (h - (q.e + 1)) := by rw [Int.add_mul]; omega
      have e2 : ((k : Int) + (rs.length + 1)) * sz.getD h 0 = k * sz.getD h 0 + rs.length * sz.getD h 0 + sz.getD h 0 := by rw [Int.add_mul, Int.add_mul]; omega
      have e3 : ((rs.length : Int) + 1) * r = rs.length * r + r := by rw [Int.add_mul]; omega
      have n1 : 0 ≤ (rs.length : Int) * sz.getD h 0 := Int.mul_nonneg (by omega) s0
      have n2 : 0 ≤ (rs.length : Int) * r := Int.mul_nonneg (by omega) r0
      rw [Int.mul_add, Int.mul_add, e2, e3]
      rw [e1] at pg
      have := ga.2
      omega
theorem pot_alone {sz : List Int} {h : Nat} (hl : h < sz.length) : ∀ (rs : List R) (k lo : Nat), Tile lo rs h → pot sz k (nx rs h h 0) = pot sz k rs + (k + rs.length) * sz.getD h 0
  | [], k, lo, t => by
    simp [nx, pot]
    rw [S_ws (Nat.le_refl _) hl]
    simp [WS]
  | q :: rs, k, lo, t => by
    obtain ⟨t1, t2, t3⟩ := t
    have l3 := Tile.le t3
    have ih := pot_alone hl rs (k + 1) _ t3
    have e : nx (q :: rs) h h 0 = ⟨q.a, q.e, q.x + 0⟩ :: nx rs h h 0 := by
      unfold nx
      rw [List.filter_cons_of_pos (by simp; omega), List.map_cons, List.cons_append]
    rw [e, pot, pot, ih, List.length_cons]
    dsimp only
    push_cast
    rw [show (k : Int) + 1 + rs.length = k + (rs.length + 1) by omega]
    omega
/-- what holds of the keeper by credits: costs so far, with what is laid by, are no more than so many times raises and sizes -/
def Pays (sz : List Int) (m h : Nat) (rs : List R) (ps : List Int) (c : Int) : Prop := c + pot sz 0 rs ≤ m * (ps.sum + WS sz (fun _ => true) 0 h)
theorem Pays.nil {sz : List Int} {m : Nat} : Pays sz m 0 [] [] 0 := by simp [Pays, pot, WS]
theorem WS_next (sz : List Int) (h : Nat) : WS sz (fun _ => true) 0 (h + 1) = WS sz (fun _ => true) 0 h + sz.getD h 0 := by
  rw [WS_add]; simp [WS]
theorem Pays.alone {sz : List Int} (hs : ∀ s ∈ sz, 0 ≤ s) {m h : Nat} {rs : List R} {ps : List Int} {c : Int} (p : Pays sz m h rs ps c) (t : Tile 0 rs h) (hl : h < sz.length) (lt : rs.length < m) : Pays sz m (h + 1) (nx rs h h 0) (ps ++ [0]) (c + S sz h h) := by
  have s0 := getD_nonneg hs h
  unfold Pays at p ⊢
  rw [pot_alone hl rs 0 0 t, WS_next, List.sum_append, List.sum_singleton, S_ws (Nat.le_refl _) hl]
  have e : WS sz (fun _ => true) h (h + 1 - h) = sz.getD h 0 := by rw [show h + 1 - h = 1 by omega]; simp [WS]
  rw [e, Int.add_zero, show ps.sum + (WS sz (fun _ => true) 0 h + sz.getD h 0) = (ps.sum + WS sz (fun _ => true) 0 h) + sz.getD h 0 by omega, Int.mul_add]
  have : ((rs.length : Int) + 1) * sz.getD h 0 ≤ m * sz.getD h 0 := Int.mul_le_mul_of_nonneg_right (by omega) s0
  rw [Int.add_mul, Int.one_mul] at this
  rw [show ((0 : Nat) : Int) = 0 from rfl, Int.zero_add]
  omega
theorem Pays.join {sz : List Int} (hs : ∀ s ∈ sz, 0 ≤ s) {m h g : Nat} {rs : List R} {ps : List Int} {c r : Int} (p : Pays sz m h rs ps c) (t : Tile 0 rs h) (hl : h < sz.length) (lt : rs.length = m) (r0 : 0 ≤ r) (hx : ∀ q ∈ rs, 0 ≤ q.x) (hf : ∃ q ∈ rs, q.a = g ∧ q.x + r = S sz q.a q.e) : Pays sz m (h + 1) (nx rs g h r) (ps ++ [r]) (c + S sz g h) := by
  have s0 := getD_nonneg hs h
  have j := pot_join hs r0 hl rs 0 0 t hx hf
  unfold Pays at p ⊢
  rw [WS_next, List.sum_append, List.sum_singleton, show ps.sum + r + (WS sz (fun _ => true) 0 h + sz.getD h 0) = (ps.sum + WS sz (fun _ => true) 0 h) + r + sz.getD h 0 by omega, Int.mul_add, Int.mul_add]
  rw [lt, show ((0 : Nat) : Int) = 0 from rfl, Int.zero_add] at j
  omega
theorem pot_nonneg {sz : List Int} (hs : ∀ s ∈ sz, 0 ≤ s) {rs : List R} {h : Nat} (t : Tile 0 rs h) (hl : h ≤ sz.length) (hx : ∀ q ∈ rs, 0 ≤ q.x) : 0 ≤ pot sz 0 rs := by
  have := pot_ge hs rs 0 0 h t hl hx
  simpa using this
theorem Pays.bound {sz : List Int} (hs : ∀ s ∈ sz, 0 ≤ s) {m : Nat} {rs : List R} {ps : List Int} {c : Int} (p : Pays sz m sz.length rs ps c) (t : Tile 0 rs sz.length) (hx : ∀ q ∈ rs, 0 ≤ q.x) : c ≤ m * (ps.sum + sz.sum) := by
  have := pot_nonneg hs t (Nat.le_refl _) hx
  unfold Pays at p
  rw [WS_all] at p
  omega
end PB
/-! The keeper by credits, step by step, on rows that grow. -/
namespace PB
open PM
theorem nx_a (rs : List R) (g h : Nat) (r : Int) : (nx rs g h r).map (·.a) = (rs.map (·.a)).filter (· < g) ++ [g] := by
  rw [nx, List.map_append, List.map_map, List.filter_map]; rfl
theorem path_width {sz : List Int} {m h : Nat} {st pl : List Nat} {c : Int} (p : Path sz m 0 h st pl c) : st.length ≤ m := by
  cases p with
  | nil => exact Nat.zero_le _
  | step p a g ha hg => rw [List.length_append, List.length_take, List.length_singleton]; omega
/-- where the keeper by credits stands -/
structure Cr (sz : List Int) (m h : Nat) (rs : List R) (pl : List Nat) (ps : List Int) (c : Int) : Prop where
  bur : Bur sz m h rs pl ps
  path : Path sz m 0 h (rs.map (·.a)) pl c
  pays : Pays sz m h rs ps c
theorem Cr.nil (sz : List Int) (m : Nat) : Cr sz m 0 [] [] [] 0 := ⟨.nil, .nil, Pays.nil⟩
theorem min_slack (sz : List Int) : ∀ {rs : List R}, rs ≠ [] → ∃ q ∈ rs, ∀ p ∈ rs, S sz q.a q.e - q.x ≤ S sz p.a p.e - p.x
  | [q], _ => ⟨q, by simp, fun p hp => by rw [List.mem_singleton.mp hp]; exact Int.le_refl _⟩
  | q :: q2 :: rs, _ => by
    obtain ⟨p, hp, h⟩ := min_slack sz (rs := q2 :: rs) (by simp)
    by_cases c : S sz q.a q.e - q.x ≤ S sz p.a p.e - p.x
    · refine ⟨q, by simp, fun x hx => ?_⟩
      rcases List.mem_cons.mp hx with rfl | hx
      · exact Int.le_refl _
      · have := h x hx; omega
    · refine ⟨p, List.mem_cons_of_mem _ hp, fun x hx => ?_⟩
      rcases List.mem_cons.mp hx with rfl | hx
      · omega
      · exact h x hx
/-- one hour more -/
theorem Cr.next {sz : List Int} (hs : ∀ s ∈ sz, 0 ≤ s) {m h : Nat} (hm : 1 ≤ m) {rs : List R} {pl : List Nat} {ps : List Int} {c : Int} (x : Cr sz m h rs pl ps c) (hl : h < sz.length) :
    ∃ a g r, a < m ∧ (rs.map (·.a) ++ [h])[a]? = some g ∧ (nx rs g h r).map (·.a) = (rs.map (·.a)).take a ++ [g] ∧ Cr sz m (h + 1) (nx rs g h r) (pl ++ [g]) (ps ++ [r]) (c + S sz g h) := by
  have so := x.path.sorted
  have wd := path_width x.path
  rw [List.length_map] at wd
  have bo := x.bur.borne hs (by omega)
  by_cases e : rs.length = m
  · obtain ⟨q, hq, mn⟩ := min_slack sz (rs := rs) (fun z => by rw [z] at e; simp at e; omega)
    have hg : q.a ∈ rs.map (·.a) := List.mem_map_of_mem (f := fun q : R => q.a) hq
    obtain ⟨a, ha, ea⟩ := List.mem_iff_getElem.mp hg
    have ga : (rs.map (·.a) ++ [h])[a]? = some q.a := by rw [List.getElem?_append_left ha, List.getElem?_eq_getElem ha, ea]
    have r0 : 0 ≤ S sz q.a q.e - q.x := by have := bo q hq; omega
    have na : (nx rs q.a h (S sz q.a q.e - q.x)).map (·.a) = (rs.map (·.a)).take a ++ [q.a] := by rw [nx_a, filter_take so.1 so.2 ga]
    have am : a < m := by rw [List.length_map] at ha; omega
    refine ⟨a, q.a, S sz q.a q.e - q.x, am, ga, na, .step x.bur _ _ r0 (fun _ => e) (fun p hp => by have := mn p hp; omega) (.inl hg), ?_, x.pays.join hs x.bur.tile hl e r0 (fun p hp => (bo p hp).1) ⟨q, hq, rfl, by omega⟩⟩
    rw [na]
    exact .step x.path a q.a am ga
  · have ga : (rs.map (·.a) ++ [h])[(rs.map (·.a)).length]? = some h := by rw [List.getElem?_append_right (Nat.le_refl _)]; simp
    have na : (nx rs h h 0).map (·.a) = (rs.map (·.a)).take (rs.map (·.a)).length ++ [h] := by rw [nx_a, filter_take so.1 so.2 ga]
    have am : (rs.map (·.a)).length < m := by rw [List.length_map]; omega
    refine ⟨_, h, 0, am, ga, na, .step x.bur 0 h (Int.le_refl _) (fun z => absurd z (by decide)) (fun q hq => by have := (bo q hq).2; omega) (.inr rfl), ?_, x.pays.alone hs x.bur.tile hl (by omega)⟩
    rw [na]
    exact .step x.path _ h am ga
theorem S_app {sz : List Int} {s : Int} {g h : Nat} (hl : h < sz.length) : S (sz ++ [s]) g h = S sz g h := by
  unfold S
  by_cases c : g ≤ h
  · rw [List.drop_append_of_le_length (by omega), List.take_append_of_le_length (by rw [List.length_drop]; omega)]
  · rw [show h + 1 - g = 0 by omega]; simp
theorem _root_.PM.Path.app {sz : List Int} {s : Int} {m h : Nat} {st pl : List Nat} {c : Int} (p : Path sz m 0 h st pl c) : h ≤ sz.length → Path (sz ++ [s]) m 0 h st pl c := by
  induction p with
  | nil => exact fun _ => .nil
  | @step h st pl c p a g ha hg ih =>
    intro hl
    have := Path.step (ih (by omega)) a g ha hg
    rw [S_app (by omega)] at this
    exact this
theorem _root_.PM.Path.unapp {sz : List Int} {s : Int} {m h : Nat} {st pl : List Nat} {c : Int} (p : Path (sz ++ [s]) m 0 h st pl c) : h ≤ sz.length → Path sz m 0 h st pl c := by
  induction p with
  | nil => exact fun _ => .nil
  | @step h st pl c p a g ha hg ih =>
    intro hl
    have := Path.step (ih (by omega)) a g ha hg
    rw [← S_app (s := s) (by omega)] at this
    exact this
theorem Bur.app {sz : List Int} {s : Int} {m h : Nat} {rs : List R} {pl : List Nat} {ps : List Int} (b : Bur sz m h rs pl ps) : h ≤ sz.length → Bur (sz ++ [s]) m h rs pl ps := by
  induction b with
  | nil => exact fun _ => .nil
  | @step h rs pl ps p r g h0 hr hb hg ih =>
    intro hl
    refine .step (ih (by omega)) r g h0 hr (fun q hq => ?_) hg
    have t := p.tile.mem q hq
    rw [S_app (by omega)]
    exact hb q hq
theorem WS_app {sz : List Int} {s : Int} {T : Nat → Bool} : ∀ (n lo : Nat), lo + n ≤ sz.length → WS (sz ++ [s]) T lo n = WS sz T lo n
  | 0, _, _ => rfl
  | n + 1, lo, h => by
    rw [WS, WS, WS_app n (lo + 1) (by omega)]
    have : (sz ++ [s]).getD lo 0 = sz.getD lo 0 := by rw [List.getD_eq_getElem?_getD, List.getD_eq_getElem?_getD, List.getElem?_append_left (by omega)]
    rw [this]
theorem pot_app {sz : List Int} {s : Int} : ∀ (rs : List R) (k : Nat), (∀ q ∈ rs, q.e < sz.length) → pot (sz ++ [s]) k rs = pot sz k rs
  | [], _, _ => rfl
  | q :: rs, k, h => by
    rw [pot, pot, pot_app rs (k + 1) fun p hp => h p (List.mem_cons_of_mem _ hp), S_app (h q List.mem_cons_self)]
theorem Cr.app {sz : List Int} {s : Int} {m h : Nat} {rs : List R} {pl : List Nat} {ps : List Int} {c : Int} (x : Cr sz m h rs pl ps c) (hl : h ≤ sz.length) : Cr (sz ++ [s]) m h rs pl ps c := by
  refine ⟨x.bur.app hl, x.path.app hl, ?_⟩
  have p := x.pays
  unfold Pays at p ⊢
  rw [pot_app rs 0 fun q hq => by have := x.bur.tile.mem q hq; omega, WS_app h 0 (by omega)]
  exact p
end PB
/-! The game of a keeper against a foe. -/
namespace PG
open PM PB
abbrev Q := Int × Int
/-- p is greater than q -/
def more (p q : Q) : Bool := decide (q.1 * p.2 < p.1 * q.2)
def Le (p q : Q) : Prop := p.1 * q.2 ≤ q.1 * p.2
theorem more_iff {p q : Q} : more p q = true ↔ ¬ Le p q := by simp [more, Le]
theorem Le.refl (p : Q) : Le p p := Int.le_refl _
theorem Le.trans {p q r : Q} (hp : 0 < p.2) (hq : 0 < q.2) (hr : 0 < r.2) (a : Le p q) (b : Le q r) : Le p r := by
  unfold Le at *
  have h1 := Int.mul_le_mul_of_nonneg_right a (Int.le_of_lt hr)
  have h2 := Int.mul_le_mul_of_nonneg_right b (Int.le_of_lt hp)
  have : p.1 * r.2 * q.2 ≤ r.1 * p.2 * q.2 := by
    have e1 : p.1 * r.2 * q.2 = p.1 * q.2 * r.2 := by rw [Int.mul_assoc, Int.mul_comm r.2, ← Int.mul_assoc]
    have e2 : r.1 * p.2 * q.2 = r.1 * q.2 * p.2 := by rw [Int.mul_assoc, Int.mul_comm p.2, ← Int.mul_assoc]
    have e3 : q.1 * p.2 * r.2 = q.1 * r.2 * p.2 := by rw [Int.mul_assoc, Int.mul_comm p.2, ← Int.mul_assoc]
    omega
  exact Int.le_of_mul_le_mul_right this hq
def maxF : Q → List Q → Q
  | q, [] => q
  | q, t :: ts => maxF (if more t q = true then t else q) ts
def minF : Option Q → List Q → Option Q
  | a, [] => a
  | a, t :: ts => minF (some (match a with | none => t | some q => if more q t = true then t else q)) ts
theorem maxF_spec : ∀ (ts : List Q) (q : Q), 0 < q.2 → (∀ t ∈ ts, 0 < t.2) → 0 < (maxF q ts).2 ∧ Le q (maxF q ts) ∧ (∀ t ∈ ts, Le t (maxF q ts)) ∧ (maxF q ts = q ∨ maxF q ts ∈ ts)
  | [], q, h, _ => ⟨h, Le.refl q, fun t ht => (nomatch ht), .inl rfl⟩
  | t :: ts, q, h, hs => by
    have ht := hs t List.mem_cons_self
    rw [maxF]
    by_cases c : more t q = true
    · rw [if_pos c]
      obtain ⟨h1, h2, h3, h4⟩ := maxF_spec ts t ht fun x hx => hs x (List.mem_cons_of_mem _ hx)
      have qt : Le q t := by have := more_iff.mp c; unfold Le at *; omega
      refine ⟨h1, qt.trans h ht h1 h2, fun x hx => ?_, .inr ?_⟩
      · rcases List.mem_cons.mp hx with rfl | hx
        · exact h2
        · exact h3 x hx
      · rcases h4 with e | e
        · rw [e]; simp
        · exact List.mem_cons_of_mem _ e
    · rw [if_neg c]
      obtain ⟨h1, h2, h3, h4⟩ := maxF_spec ts q h fun x hx => hs x (List.mem_cons_of_mem _ hx)
      have tq : Le t q := Classical.byContradiction fun z => c (more_iff.mpr z)
      refine ⟨h1, h2, fun x hx => ?_, ?_⟩
      · rcases List.mem_cons.mp hx with rfl | hx
        · exact tq.trans ht h h1 h2
        · exact h3 x hx
      · rcases h4 with e | e
        · exact .inl e
        · exact .inr (List.mem_cons_of_mem _ e)
theorem minF_some : ∀ (ts : List Q) (q : Q), 0 < q.2 → (∀ t ∈ ts, 0 < t.2) → ∃ r, minF (some q) ts = some r ∧ 0 < r.2 ∧ Le r q ∧ (∀ t ∈ ts, Le r t) ∧ (r = q ∨ r ∈ ts)
  | [], q, h, _ => ⟨q, rfl, h, Le.refl q, fun t ht => (nomatch ht), .inl rfl⟩
  | t :: ts, q, h, hs => by
    have ht := hs t List.mem_cons_self
    rw [minF]
    try dsimp only
    by_cases c : more q t = true
    · rw [if_pos c]
      obtain ⟨r, h0, h1, h2, h3, h4⟩ := minF_some ts t ht fun x hx => hs x (List.mem_cons_of_mem _ hx)
      have tq : Le t q := by have := more_iff.mp c; unfold Le at *; omega
      refine ⟨r, h0, h1, h2.trans h1 ht h tq, fun x hx => ?_, .inr ?_⟩
      · rcases List.mem_cons.mp hx with rfl | hx
        · exact h2
        · exact h3 x hx
      · rcases h4 with e | e
        · rw [e]; simp
        · exact List.mem_cons_of_mem _ e
    · rw [if_neg c]
      obtain ⟨r, h0, h1, h2, h3, h4⟩ := minF_some ts q h fun x hx => hs x (List.mem_cons_of_mem _ hx)
      have qt : Le q t := Classical.byContradiction fun z => c (more_iff.mpr z)
      refine ⟨r, h0, h1, h2, fun x hx => ?_, ?_⟩
      · rcases List.mem_cons.mp hx with rfl | hx
        · exact h2.trans h1 h ht qt
        · exact h3 x hx
      · rcases h4 with e | e
        · exact .inl e
        · exact .inr (List.mem_cons_of_mem _ e)
theorem minF_spec {ts : List Q} (ne : ts ≠ []) (hs : ∀ t ∈ ts, 0 < t.2) : ∃ r, minF none ts = some r ∧ 0 < r.2 ∧ (∀ t ∈ ts, Le r t) ∧ r ∈ ts := by
  cases ts with
  | nil => exact absurd rfl ne
  | cons t ts =>
    obtain ⟨r, h0, h1, h2, h3, h4⟩ := minF_some ts t (hs t List.mem_cons_self) fun x hx => hs x (List.mem_cons_of_mem _ hx)
    refine ⟨r, h0, h1, fun x hx => ?_, ?_⟩
    · rcases List.mem_cons.mp hx with rfl | hx
      · exact h2
      · exact h3 x hx
    · rcases h4 with e | e
      · rw [e]; simp
      · exact List.mem_cons_of_mem _ e
theorem minF_cons (a : Option Q) (t : Q) (ts : List Q) : minF a (t :: ts) = minF (some (match a with | none => t | some q => if more q t = true then t else q)) ts := by
  cases a <;> rfl
/-- in lowest terms -/
def low (p : Q) : Q := (p.1 / (Int.gcd p.1 p.2 : Int), p.2 / (Int.gcd p.1 p.2 : Int))
theorem gcd_pos {p : Q} (h : 0 < p.2) : 0 < Int.gcd p.1 p.2 := Int.gcd_pos_of_ne_zero_right _ (by omega)
theorem low_mul (p : Q) : p.1 = (low p).1 * (Int.gcd p.1 p.2 : Int) ∧ p.2 = (low p).2 * (Int.gcd p.1 p.2 : Int) :=
  ⟨(Int.ediv_mul_cancel (Int.gcd_dvd_left ..)).symm, (Int.ediv_mul_cancel (Int.gcd_dvd_right ..)).symm⟩
theorem low_pos {p : Q} (h : 0 < p.2) : 0 < (low p).2 := by
  have g := gcd_pos h
  have e := (low_mul p).2
  apply Classical.byContradiction
  intro c
  have : (low p).2 * (Int.gcd p.1 p.2 : Int) ≤ 0 := Int.mul_nonpos_of_nonpos_of_nonneg (by omega) (by omega)
  omega
theorem Le_low_left {p q : Q} (h : 0 < p.2) : Le (low p) q ↔ Le p q := by
  have g : (0 : Int) < (Int.gcd p.1 p.2 : Int) := by have := gcd_pos h; omega
  obtain ⟨e1, e2⟩ := low_mul p
  unfold Le
  constructor
  · intro a
    have := Int.mul_le_mul_of_nonneg_right a (Int.le_of_lt g)
    rw [Int.mul_assoc, Int.mul_comm q.2, ← Int.mul_assoc, ← e1, Int.mul_assoc, ← e2] at this
    exact this
  · intro a
    refine Int.le_of_mul_le_mul_right (a := (Int.gcd p.1 p.2 : Int)) ?_ g
    rw [Int.mul_assoc, Int.mul_comm q.2, ← Int.mul_assoc, ← e1, Int.mul_assoc, ← e2]
    exact a
theorem Le_low_right {p q : Q} (h : 0 < q.2) : Le p (low q) ↔ Le p q := by
  have g : (0 : Int) < (Int.gcd q.1 q.2 : Int) := by have := gcd_pos h; omega
  obtain ⟨e1, e2⟩ := low_mul q
  unfold Le
  constructor
  · intro a
    have := Int.mul_le_mul_of_nonneg_right a (Int.le_of_lt g)
    rw [Int.mul_assoc, ← e2, Int.mul_assoc, Int.mul_comm p.2, ← Int.mul_assoc, ← e1] at this
    exact this
  · intro a
    refine Int.le_of_mul_le_mul_right (a := (Int.gcd q.1 q.2 : Int)) ?_ g
    rw [Int.mul_assoc, ← e2, Int.mul_assoc, Int.mul_comm p.2, ← Int.mul_assoc, ← e1]
    exact a
theorem more_low {p q : Q} (hp : 0 < p.2) (hq : 0 < q.2) : more (low p) (low q) = more p q := by
  rw [Bool.eq_iff_iff, more_iff, more_iff, Le_low_left hp, Le_low_right hq]
/-! ## the value -/
/-- the answers to the last size of a row: begins, paid -/
def nexts (m : Nat) (row : List Int) (b : List Nat) (p : Int) : List (List Nat × Int) :=
  let gs := (b ++ [row.length - 1]).take m
  (List.range gs.length).map fun a => (b.take a ++ [gs.getD a 0], p + (row.drop (gs.getD a 0)).sum)
def sizes (k : Nat) : List Int := (List.range k).map fun (i : Nat) => (1 : Int) + i
def held (due : List Int → Int) (m k : Nat) : Nat → Q → List Int → List Nat → Int → Q
  | 0, base, _, _, _ => base
  | n + 1, base, row, b, p => maxF base ((sizes k).map fun s => (minF none ((nexts m (row ++ [s]) b p).map fun c => held due m k n (c.2, due (row ++ [s])) (row ++ [s]) c.1 c.2)).getD (0, 1))
def ans (due : List Int → Int) (m k n : Nat) (row : List Int) (b : List Nat) (p : Int) : Q := (minF none ((nexts m row b p).map fun c => held due m k n (c.2, due row) row c.1 c.2)).getD (0, 1)
theorem held_succ (due : List Int → Int) (m k n : Nat) (base : Q) (row : List Int) (b : List Nat) (p : Int) : held due m k (n + 1) base row b p = maxF base ((sizes k).map fun s => ans due m k n (row ++ [s]) b p) := rfl
def RowOk (row : List Int) : Prop := ∀ s ∈ row, 1 ≤ s
/-- where a game can stand -/
def At (m : Nat) (row : List Int) (b : List Nat) (p : Int) : Prop := ∃ pl, Path row m 0 row.length b pl p
theorem S_last {row : List Int} {g : Nat} (h : 0 < row.length) : S row g (row.length - 1) = (row.drop g).sum := by
  unfold S
  rw [List.take_of_length_le (by rw [List.length_drop]; omega)]
theorem nexts_at {m : Nat} {row : List Int} {s : Int} {b : List Nat} {p : Int} (a : At m row b p) : ∀ c ∈ nexts m (row ++ [s]) b p, At m (row ++ [s]) c.1 c.2 := by
  intro c hc
  obtain ⟨pl, q⟩ := a
  unfold nexts at hc
  obtain ⟨i, hi, rfl⟩ := List.mem_map.mp hc
  rw [List.mem_range, List.length_take] at hi
  have hl : (row ++ [s]).length - 1 = row.length := by simp
  rw [hl] at hi ⊢
  have q' := Path.app (s := s) q (Nat.le_refl _)
  have hi2 : i < (b ++ [row.length]).length := by omega
  have ge : ((b ++ [row.length]).take m).getD i 0 = (b ++ [row.length])[i] := by
    rw [List.getD_eq_getElem?_getD, List.getElem?_take_of_lt (by omega), List.getElem?_eq_getElem hi2]; rfl
  have st := Path.step q' i _ (show i < m by omega) (List.getElem?_eq_getElem hi2)
  have e := S_last (row := row ++ [s]) (g := (b ++ [row.length])[i]) (by simp)
  rw [hl] at e
  rw [e] at st
  refine ⟨pl ++ [(b ++ [row.length])[i]], ?_⟩
  rw [ge, List.length_append, List.length_singleton]
  exact st
theorem nexts_ne {m : Nat} (hm : 1 ≤ m) (row : List Int) (b : List Nat) (p : Int) : nexts m row b p ≠ [] := by
  intro z
  have := congrArg List.length z
  simp [nexts] at this
  omega
theorem path_pos {row : List Int} (ok : RowOk row) {m h : Nat} {st pl : List Nat} {c : Int} (p : Path row m 0 h st pl c) : h ≤ row.length → 0 ≤ c ∧ (0 < h → 0 < c) := by
  induction p with
  | nil => exact fun _ => ⟨Int.le_refl _, fun z => absurd z (by decide)⟩
  | @step h st pl c p a g ha hg ih =>
    intro hl
    obtain ⟨i1, _⟩ := ih (by omega)
    have so := p.sorted
    have gl : g ≤ h := by
      rcases List.mem_append.mp (List.mem_of_getElem? hg) with z | z
      · have := so.2 g z; omega
      · rw [List.mem_singleton.mp z]; exact Nat.le_refl _
    have s1 : 1 ≤ S row g h := by
      have pos : ∀ s ∈ row, 0 ≤ s := fun s hs => by have := ok s hs; omega
      rw [S_ws gl (by omega), show h + 1 - g = (h - g) + 1 by omega, WS_add, show g + (h - g) = h by omega]
      have := WS_nonneg pos (fun _ => true) (h - g) g
      have : 1 ≤ row.getD h 0 := by
        rw [List.getD_eq_getElem?_getD, List.getElem?_eq_getElem (by omega)]
        exact ok _ (List.getElem_mem _)
      simp [WS] at *
      omega
    exact ⟨by omega, fun _ => by omega⟩
section
variable {due : List Int → Int} {m k : Nat}
/-- due tells the least -/
def Due (due : List Int → Int) (m : Nat) : Prop := ∀ row, row ≠ [] → RowOk row → Least row m 0 row.length (due row)
theorem Due.le (hd : Due due m) {row : List Int} (ne : row ≠ []) (ok : RowOk row) {b : List Nat} {p : Int} (a : At m row b p) : due row ≤ p := by
  obtain ⟨pl, q⟩ := a
  exact (hd row ne ok).2 _ _ _ q
theorem Due.pos (hd : Due due m) {row : List Int} (ne : row ≠ []) (ok : RowOk row) : 0 < due row := by
  obtain ⟨⟨st, pl, p⟩, _⟩ := hd row ne ok
  exact (path_pos ok p (Nat.le_refl _)).2 (List.length_pos_iff.mpr ne)
theorem rowOk_app {row : List Int} (ok : RowOk row) {s : Int} (hs : s ∈ sizes k) : RowOk (row ++ [s]) := fun x hx => by
  rcases List.mem_append.mp hx with z | z
  · exact ok x z
  · rw [List.mem_singleton.mp z]
    obtain ⟨i, _, rfl⟩ := List.mem_map.mp hs
    omega
theorem app_ne (row : List Int) (s : Int) : row ++ [s] ≠ [] := by simp
theorem held_pos (hd : Due due m) (hm : 1 ≤ m) : ∀ (n : Nat) (base : Q) (row : List Int) (b : List Nat) (p : Int), RowOk row → 0 < base.2 → 0 < (held due m k n base row b p).2
  | 0, base, row, b, p, ok, hb => hb
  | n + 1, base, row, b, p, ok, hb => by
    rw [held_succ]
    refine (maxF_spec _ base hb fun t ht => ?_).1
    obtain ⟨s, hs, rfl⟩ := List.mem_map.mp ht
    have ok' := rowOk_app ok hs
    obtain ⟨r, e, rp, _⟩ := minF_spec (ts := (nexts m (row ++ [s]) b p).map fun c => held due m k n (c.2, due (row ++ [s])) (row ++ [s]) c.1 c.2) (by simpa using nexts_ne hm _ _ _) fun t ht => by
      obtain ⟨c, hc, rfl⟩ := List.mem_map.mp ht
      exact held_pos hd hm n _ _ _ _ ok' (hd.pos (app_ne _ _) ok')
    unfold ans
    rw [e]; exact rp
/-- the best answer -/
theorem ans_spec (hd : Due due m) (hm : 1 ≤ m) (n : Nat) {row : List Int} (ne : row ≠ []) (ok : RowOk row) (b : List Nat) (p : Int) :
    minF none ((nexts m row b p).map fun c => held due m k n (c.2, due row) row c.1 c.2) = some (ans due m k n row b p) ∧ 0 < (ans due m k n row b p).2 ∧ (∀ c ∈ nexts m row b p, Le (ans due m k n row b p) (held due m k n (c.2, due row) row c.1 c.2)) ∧ ∃ c ∈ nexts m row b p, ans due m k n row b p = held due m k n (c.2, due row) row c.1 c.2 := by
  obtain ⟨r, e, rp, lo, me⟩ := minF_spec (ts := (nexts m row b p).map fun c => held due m k n (c.2, due row) row c.1 c.2) (by simpa using nexts_ne hm _ _ _) fun t ht => by
    obtain ⟨c, hc, rfl⟩ := List.mem_map.mp ht
    exact held_pos hd hm n _ _ _ _ ok (hd.pos ne ok)
  have ea : ans due m k n row b p = r := by unfold ans; rw [e]; rfl
  rw [ea]
  refine ⟨e, rp, fun c hc => lo _ (List.mem_map_of_mem (f := fun c => held due m k n (c.2, due row) row c.1 c.2) hc), ?_⟩
  obtain ⟨c, hc, ec⟩ := List.mem_map.mp me
  exact ⟨c, hc, ec.symm⟩
theorem held_spec (hd : Due due m) (hm : 1 ≤ m) (n : Nat) {base : Q} (hb : 0 < base.2) {row : List Int} (ok : RowOk row) (b : List Nat) (p : Int) :
    Le base (held due m k (n + 1) base row b p) ∧ (∀ s ∈ sizes k, Le (ans due m k n (row ++ [s]) b p) (held due m k (n + 1) base row b p)) ∧ (held due m k (n + 1) base row b p = base ∨ ∃ s ∈ sizes k, held due m k (n + 1) base row b p = ans due m k n (row ++ [s]) b p) := by
  have sp := maxF_spec ((sizes k).map fun s => ans due m k n (row ++ [s]) b p) base hb fun t ht => by
    obtain ⟨s, hs, rfl⟩ := List.mem_map.mp ht
    exact (ans_spec hd hm n (app_ne _ _) (rowOk_app ok hs) b p).2.1
  rw [held_succ]
  refine ⟨sp.2.1, fun s hs => sp.2.2.1 _ (List.mem_map_of_mem (f := fun s => ans due m k n (row ++ [s]) b p) hs), ?_⟩
  rcases sp.2.2.2 with e | e
  · exact .inl e
  · obtain ⟨s, hs, e⟩ := List.mem_map.mp e
    exact .inr ⟨s, hs, e.symm⟩
/-- never below 1 -/
theorem held_one (hd : Due due m) (hm : 1 ≤ m) : ∀ (n : Nat) (row : List Int) (b : List Nat) (p : Int), row ≠ [] → RowOk row → At m row b p → Le (1, 1) (held due m k n (p, due row) row b p)
  | n, row, b, p, ne, ok, a => by
    have h1 : Le (1, 1) (p, due row) := by have := hd.le ne ok a; simp [Le]; omega
    cases n with
    | zero => exact h1
    | succ n => exact h1.trans (by decide) (hd.pos ne ok) (held_pos hd hm _ _ _ _ _ ok (hd.pos ne ok)) (held_spec hd hm n (hd.pos ne ok) ok b p).1
theorem root_one (hd : Due due m) (hm : 1 ≤ m) (hk : 1 ≤ k) (n : Nat) : Le (1, 1) (held due m k (n + 1) (0, 1) [] [] 0) := by
  have s1 : (1 : Int) ∈ sizes k := List.mem_map.mpr ⟨0, List.mem_range.mpr hk, by simp⟩
  have ok0 : RowOk [] := fun s hs => nomatch hs
  have sp := (held_spec hd hm n (base := (0, 1)) (by decide) ok0 [] 0).2.1 1 s1
  have an := ans_spec (k := k) hd hm n (app_ne [] 1) (rowOk_app ok0 s1) [] 0
  obtain ⟨c, hc, ec⟩ := an.2.2.2
  have at0 : At m [] [] 0 := ⟨[], .nil⟩
  have := held_one (k := k) hd hm n ([] ++ [1]) c.1 c.2 (app_ne _ _) (rowOk_app ok0 s1) (nexts_at at0 c hc)
  rw [← ec] at this
  exact this.trans (by decide) an.2.1 (held_pos hd hm _ _ _ _ _ ok0 (by decide)) sp
/-- the keeper by credits holds most -/
def CrAt (m : Nat) (row : List Int) (b : List Nat) (p : Int) : Prop := ∃ rs pl ps, Cr row m row.length rs pl ps p ∧ rs.map (·.a) = b
theorem pos_of {row : List Int} (ok : RowOk row) : ∀ s ∈ row, 0 ≤ s := fun s hs => by have := ok s hs; omega
theorem CrAt.pay (hd : Due due m) (hm : 1 ≤ m) {row : List Int} (ne : row ≠ []) (ok : RowOk row) {b : List Nat} {p : Int} (x : CrAt m row b p) : Le (p, due row) ((m : Int), 1) := by
  obtain ⟨rs, pl, ps, x, _⟩ := x
  have bo := x.bur.borne (pos_of ok) (Nat.le_refl _)
  have h1 := x.pays.bound (pos_of ok) x.bur.tile fun q hq => (bo q hq).1
  have h2 := x.bur.plan (pos_of ok) hm (List.length_pos_iff.mpr ne) (hd row ne ok)
  have h3 : (m : Int) * (ps.sum + row.sum) ≤ m * due row := Int.mul_le_mul_of_nonneg_left h2 (by omega)
  simp [Le]; omega
theorem CrAt.step {row : List Int} (ok : RowOk row) (hm : 1 ≤ m) {b : List Nat} {p : Int} (x : CrAt m row b p) {s : Int} (hs : s ∈ sizes k) : ∃ c ∈ nexts m (row ++ [s]) b p, CrAt m (row ++ [s]) c.1 c.2 := by
  obtain ⟨rs, pl, ps, x, rfl⟩ := x
  have x' := x.app (s := s) (Nat.le_refl _)
  obtain ⟨a, g, r, am, ga, na, y⟩ := x'.next (pos_of (rowOk_app ok hs)) hm (by simp)
  have hl : (row ++ [s]).length - 1 = row.length := by simp
  have e := S_last (row := row ++ [s]) (g := g) (by simp)
  rw [hl] at e
  have alt : a < (rs.map (·.a) ++ [row.length]).length := (List.getElem?_eq_some_iff.mp ga).1
  have gd : ((rs.map (·.a) ++ [row.length]).take m).getD a 0 = g := by rw [List.getD_eq_getElem?_getD, List.getElem?_take_of_lt am, ga]; rfl
  refine ⟨((rs.map (·.a)).take a ++ [g], p + ((row ++ [s]).drop g).sum), ?_, nx rs g row.length r, pl ++ [g], ps ++ [r], ?_, na⟩
  · unfold nexts
    rw [hl]
    refine List.mem_map.mpr ⟨a, List.mem_range.mpr (by rw [List.length_take]; omega), ?_⟩
    rw [gd]
  · rw [e] at y
    have : (row ++ [s]).length = row.length + 1 := by simp
    rw [this]; exact y
theorem held_most (hd : Due due m) (hm : 1 ≤ m) : ∀ (n : Nat) (base : Q) (row : List Int) (b : List Nat) (p : Int), RowOk row → 0 < base.2 → Le base ((m : Int), 1) → CrAt m row b p → Le (held due m k n base row b p) ((m : Int), 1)
  | 0, base, row, b, p, ok, hb, h1, x => h1
  | n + 1, base, row, b, p, ok, hb, h1, x => by
    obtain ⟨_, _, h⟩ := held_spec (k := k) hd hm n hb ok b p
    rcases h with e | ⟨s, hs, e⟩
    · rw [e]; exact h1
    · rw [e]
      obtain ⟨c, hc, y⟩ := x.step ok hm hs
      have ok' := rowOk_app ok hs
      have an := ans_spec (k := k) hd hm n (app_ne row s) ok' b p
      have dp := hd.pos (app_ne row s) ok'
      have ih := held_most hd hm n (c.2, due (row ++ [s])) (row ++ [s]) c.1 c.2 ok' dp (y.pay hd hm (app_ne _ _) ok') y
      exact (an.2.2.1 c hc).trans an.2.1 (held_pos hd hm _ _ _ _ _ ok' dp) (show (0 : Int) < 1 by decide) ih
theorem root_most (hd : Due due m) (hm : 1 ≤ m) (n : Nat) : Le (held due m k n (0, 1) [] [] 0) ((m : Int), 1) :=
  held_most hd hm n (0, 1) [] [] 0 (fun s hs => (nomatch hs)) (by decide) (by simp [Le]) ⟨[], [], [], Cr.nil [] m, rfl⟩
/-- no less with more hours and sizes -/
theorem held_mono (hd : Due due m) (hm : 1 ≤ m) {k' : Nat} (hk : k ≤ k') : ∀ (n n' : Nat) (base : Q) (row : List Int) (b : List Nat) (p : Int), n ≤ n' → RowOk row → 0 < base.2 → Le (held due m k n base row b p) (held due m k' n' base row b p)
  | 0, 0, base, row, b, p, _, ok, hb => Le.refl _
  | 0, n' + 1, base, row, b, p, _, ok, hb => (held_spec hd hm n' hb ok b p).1
  | n + 1, 0, base, row, b, p, h, ok, hb => absurd h (by omega)
  | n + 1, n' + 1, base, row, b, p, h, ok, hb => by
    obtain ⟨_, _, h1⟩ := held_spec (k := k) hd hm n hb ok b p
    obtain ⟨h2, h3, _⟩ := held_spec (k := k') hd hm n' hb ok b p
    rcases h1 with e | ⟨s, hs, e⟩
    · rw [e]; exact h2
    · rw [e]
      have hs' : s ∈ sizes k' := by
        obtain ⟨i, hi, rfl⟩ := List.mem_map.mp hs
        exact List.mem_map.mpr ⟨i, List.mem_range.mpr (by have := List.mem_range.mp hi; omega), rfl⟩
      have ok' := rowOk_app ok hs
      have a1 := ans_spec (k := k) hd hm n (app_ne row s) ok' b p
      have a2 := ans_spec (k := k') hd hm n' (app_ne row s) ok' b p
      obtain ⟨c, hc, ec⟩ := a2.2.2.2
      have dp := hd.pos (app_ne row s) ok'
      have ih := held_mono hd hm hk n n' (c.2, due (row ++ [s])) (row ++ [s]) c.1 c.2 (by omega) ok' dp
      rw [← ec] at ih
      have l1 := (a1.2.2.1 c hc).trans a1.2.1 (held_pos hd hm _ _ _ _ _ ok' dp) a2.2.1 ih
      exact l1.trans a1.2.1 a2.2.1 (held_pos hd hm _ _ _ _ _ ok hb) (h3 s hs')
end
end PG
/-! The game: small numbers, lowest terms, all rows. -/
namespace PG
open PM PB
def Sm (q : Q) : Prop := 0 ≤ q.1 ∧ q.1 ≤ 200 ∧ 0 < q.2 ∧ q.2 ≤ 200
theorem Sm.low {q : Q} (h : Sm q) : Sm (low q) := by
  obtain ⟨h1, h2, h3, h4⟩ := h
  have p := low_pos h3
  refine ⟨Int.ediv_nonneg h1 (by omega), ?_, p, ?_⟩
  · have := Int.ediv_le_self (Int.gcd q.1 q.2 : Int) h1
    show q.1 / _ ≤ 200; omega
  · have := Int.ediv_le_self (Int.gcd q.1 q.2 : Int) (show 0 ≤ q.2 by omega)
    show q.2 / _ ≤ 200; omega
theorem maxF_low : ∀ (ts : List Q) (q : Q), 0 < q.2 → (∀ t ∈ ts, 0 < t.2) → maxF (low q) (ts.map low) = low (maxF q ts)
  | [], q, _, _ => rfl
  | t :: ts, q, h, hs => by
    have ht := hs t List.mem_cons_self
    rw [List.map_cons, maxF, maxF, more_low ht h]
    by_cases c : more t q = true
    · rw [if_pos c, if_pos c]; exact maxF_low ts t ht fun x hx => hs x (List.mem_cons_of_mem _ hx)
    · rw [if_neg c, if_neg c]; exact maxF_low ts q h fun x hx => hs x (List.mem_cons_of_mem _ hx)
theorem minF_low : ∀ (ts : List Q) (o : Option Q), (∀ q, o = some q → 0 < q.2) → (∀ t ∈ ts, 0 < t.2) → minF (o.map low) (ts.map low) = (minF o ts).map low
  | [], o, _, _ => rfl
  | t :: ts, o, h, hs => by
    have ht := hs t List.mem_cons_self
    have hs' : ∀ x ∈ ts, 0 < x.2 := fun x hx => hs x (List.mem_cons_of_mem _ hx)
    cases o with
    | none => rw [List.map_cons, minF_cons, minF_cons]; exact minF_low ts (some t) (fun q e => by cases e; exact ht) hs'
    | some q =>
      have hq := h q rfl
      rw [List.map_cons, minF_cons, minF_cons]
      show minF (some (if more (low q) (low t) = true then low t else low q)) _ = (minF (some (if more q t = true then t else q)) ts).map low
      rw [more_low hq ht]
      by_cases c : more q t = true
      · rw [if_pos c, if_pos c]; exact minF_low ts (some t) (fun q e => by cases e; exact ht) hs'
      · rw [if_neg c, if_neg c]; exact minF_low ts (some q) (fun q e => by cases e; exact hq) hs'
theorem Sm.max : ∀ {ts : List Q} {q : Q}, Sm q → (∀ t ∈ ts, Sm t) → Sm (maxF q ts)
  | [], q, h, _ => h
  | t :: ts, q, h, hs => by
    rw [maxF]
    refine Sm.max ?_ fun x hx => hs x (List.mem_cons_of_mem _ hx)
    split
    · exact hs t List.mem_cons_self
    · exact h
theorem Sm.min : ∀ {ts : List Q} {o : Option Q}, (∀ q, o = some q → Sm q) → (∀ t ∈ ts, Sm t) → ∀ q, minF o ts = some q → Sm q
  | [], o, h, _ => h
  | t :: ts, o, h, hs => by
    rw [minF_cons]
    refine Sm.min (fun q e => ?_) fun x hx => hs x (List.mem_cons_of_mem _ hx)
    have ht := hs t List.mem_cons_self
    cases o with
    | none => cases e; exact ht
    | some r =>
      have e : (if more r t = true then t else r) = q := Option.some.inj e
      rw [← e]
      split
      · exact ht
      · exact h r rfl
/-! ## small costs -/
def RowIn (k : Nat) (row : List Int) : Prop := ∀ s ∈ row, 1 ≤ s ∧ s ≤ k
theorem RowIn.ok {k : Nat} {row : List Int} (h : RowIn k row) : RowOk row := fun s hs => (h s hs).1
theorem RowIn.app {k : Nat} {row : List Int} (h : RowIn k row) {s : Int} (hs : s ∈ sizes k) : RowIn k (row ++ [s]) := fun x hx => by
  rcases List.mem_append.mp hx with z | z
  · exact h x z
  · rw [List.mem_singleton.mp z]
    obtain ⟨i, hi, rfl⟩ := List.mem_map.mp hs
    have := List.mem_range.mp hi
    omega
theorem sum_part : ∀ {l : List Int} (n : Nat), (∀ s ∈ l, 0 ≤ s) → (l.take n).sum ≤ l.sum ∧ (l.drop n).sum ≤ l.sum ∧ 0 ≤ l.sum
  | [], n, _ => by simp
  | x :: l, 0, h => by
    obtain ⟨a, b, c⟩ := sum_part (l := l) 0 fun s hs => h s (List.mem_cons_of_mem _ hs)
    have := h x List.mem_cons_self
    simp
    omega
  | x :: l, n + 1, h => by
    obtain ⟨a, b, c⟩ := sum_part (l := l) n fun s hs => h s (List.mem_cons_of_mem _ hs)
    have := h x List.mem_cons_self
    simp
    omega
theorem path_most {row : List Int} (ok : RowOk row) {m h : Nat} {st pl : List Nat} {c : Int} (p : Path row m 0 h st pl c) : c ≤ (h : Int) * row.sum := by
  induction p with
  | nil => simp
  | @step h st pl c p a g ha hg ih =>
    have : S row g h ≤ row.sum := by
      unfold S
      have p1 := sum_part g (pos_of ok)
      have p2 := sum_part (l := row.drop g) (h + 1 - g) fun s hs => pos_of ok s (List.mem_of_mem_drop (i := g) hs)
      omega
    have e : (((h + 1 : Nat)) : Int) * row.sum = (h : Int) * row.sum + row.sum := by
      rw [Int.natCast_add, Int.add_mul]; simp
    omega
theorem sum_most {k : Nat} : ∀ {row : List Int}, RowIn k row → row.sum ≤ (row.length : Int) * k
  | [], _ => by simp
  | x :: row, h => by
    have := sum_most (row := row) fun s hs => h s (List.mem_cons_of_mem _ hs)
    have h1 := (h x List.mem_cons_self).2
    rw [List.sum_cons, List.length_cons]
    have e : (((row.length + 1 : Nat)) : Int) * k = (row.length : Int) * k + k := by
      rw [Int.natCast_add, Int.add_mul]; simp
    omega
theorem At.small {m k : Nat} {row : List Int} {b : List Nat} {p : Int} (a : At m row b p) (hr : RowIn k row) (hk : k ≤ 4) (hl : row.length ≤ 6) : 0 ≤ p ∧ p ≤ 200 ∧ b.length ≤ 6 := by
  obtain ⟨pl, q⟩ := a
  have h1 := (path_pos hr.ok q (Nat.le_refl _)).1
  have h2 := path_most hr.ok q
  have h3 := sum_most hr
  have h4 := q.stl
  have h5 : (row.length : Int) * k ≤ 6 * 4 := Int.mul_le_mul (by omega) (by omega) (by omega) (by omega)
  have h6 : 0 ≤ row.sum := (sum_part 0 (pos_of hr.ok)).2.2
  have h7 : (row.length : Int) * row.sum ≤ 6 * 24 := Int.mul_le_mul (by omega) (by omega) h6 (by omega)
  exact ⟨h1, by omega, by omega⟩
section
variable {due : List Int → Int} {m k : Nat}
theorem Due.sm (hd : Due due m) {row : List Int} (ne : row ≠ []) {b : List Nat} {p : Int} (a : At m row b p) (hr : RowIn k row) (hk : k ≤ 4) (hl : row.length ≤ 6) : Sm (p, due row) := by
  have h1 := a.small hr hk hl
  have h2 := hd.le ne hr.ok a
  have h3 := hd.pos ne hr.ok
  exact ⟨h1.1, h1.2.1, h3, by show due row ≤ 200; omega⟩
theorem held_sm (hd : Due due m) (hm : 1 ≤ m) (hk : k ≤ 4) : ∀ (n : Nat) (base : Q) (row : List Int) (b : List Nat) (p : Int), row.length + n ≤ 6 → RowIn k row → At m row b p → Sm base → Sm (held due m k n base row b p)
  | 0, base, row, b, p, hl, hr, a, hb => hb
  | n + 1, base, row, b, p, hl, hr, a, hb => by
    rcases (held_spec (k := k) hd hm n hb.2.2.1 hr.ok b p).2.2 with e | ⟨s, hs, e⟩
    · rw [e]; exact hb
    · rw [e]
      have hr' := hr.app hs
      obtain ⟨c, hc, ec⟩ := (ans_spec (k := k) hd hm n (app_ne row s) hr'.ok b p).2.2.2
      rw [ec]
      have a' := nexts_at (s := s) a c hc
      have hl' : (row ++ [s]).length ≤ 6 := by rw [List.length_append, List.length_singleton]; omega
      exact held_sm hd hm hk n _ _ _ _ (by rw [List.length_append, List.length_singleton]; omega) hr' a' (hd.sm (app_ne _ _) a' hr' hk hl')
end
/-! ## all rows -/
def layer (k : Nat) : Nat → List (List Int)
  | 0 => [[]]
  | n + 1 => (layer k n).flatMap fun r => (sizes k).map fun s => r ++ [s]
def rowsTo (k : Nat) : Nat → List (List Int)
  | 0 => []
  | n + 1 => rowsTo k n ++ layer k (n + 1)
theorem layer_len (k : Nat) : ∀ n, (layer k n).length = k ^ n
  | 0 => rfl
  | n + 1 => by
    have e : ∀ ls : List (List Int), (ls.flatMap fun r => (sizes k).map fun s => r ++ [s]).length = ls.length * k := by
      intro ls
      induction ls with
      | nil => simp
      | cons l ls ih => rw [List.flatMap_cons, List.length_append, ih, List.length_map, List.length_cons, Nat.succ_mul]; simp [sizes]; omega
    rw [layer, e, layer_len k n, Nat.pow_succ]
theorem mem_sizes {k : Nat} {s : Int} : s ∈ sizes k ↔ 1 ≤ s ∧ s ≤ k := by
  unfold sizes
  rw [List.mem_map]
  constructor
  · rintro ⟨i, hi, rfl⟩
    have := List.mem_range.mp hi
    omega
  · rintro ⟨h1, h2⟩
    exact ⟨(s - 1).toNat, List.mem_range.mpr (by omega), by omega⟩
theorem mem_layer {k : Nat} : ∀ (n : Nat) (r : List Int), r ∈ layer k n ↔ r.length = n ∧ RowIn k r
  | 0, r => by
    rw [layer, List.mem_singleton]
    constructor
    · rintro rfl; exact ⟨rfl, fun s hs => (nomatch hs)⟩
    · exact fun h => List.length_eq_zero_iff.mp h.1
  | n + 1, r => by
    rw [layer, List.mem_flatMap]
    constructor
    · rintro ⟨q, hq, h⟩
      obtain ⟨s, hs, rfl⟩ := List.mem_map.mp h
      obtain ⟨h1, h2⟩ := (mem_layer n q).mp hq
      exact ⟨by rw [List.length_append, h1]; rfl, h2.app hs⟩
    · rintro ⟨h1, h2⟩
      have ne : r ≠ [] := by rintro rfl; cases h1
      have e := List.dropLast_concat_getLast ne
      refine ⟨r.dropLast, (mem_layer n _).mpr ⟨by rw [List.length_dropLast]; omega, fun s hs => h2 s (List.dropLast_subset _ hs)⟩, List.mem_map.mpr ⟨r.getLast ne, mem_sizes.mpr (h2 _ (List.getLast_mem ne)), e⟩⟩
theorem mem_rowsTo {k : Nat} : ∀ (n : Nat) (r : List Int), r ∈ rowsTo k n ↔ r ≠ [] ∧ r.length ≤ n ∧ RowIn k r
  | 0, r => by
    constructor
    · exact fun h => nomatch h
    · exact fun ⟨h1, h2, _⟩ => absurd (List.length_eq_zero_iff.mp (by omega)) h1
  | n + 1, r => by
    rw [rowsTo, List.mem_append, mem_rowsTo n r, mem_layer]
    refine ⟨fun z => ?_, fun z => ?_⟩
    · rcases z with ⟨h1, h2, h3⟩ | ⟨h1, h2⟩
      · exact ⟨h1, by omega, h3⟩
      · exact ⟨(by intro e; subst e; cases h1), by omega, h2⟩
    · obtain ⟨h1, h2, h3⟩ := z
      by_cases e : r.length = n + 1
      · exact .inr ⟨e, h3⟩
      · exact .inl ⟨h1, by omega, h3⟩
theorem rowsTo_len {k n : Nat} (hk : 1 ≤ k) (h : k ^ n ≤ 400) : ∀ i, i ≤ n → (rowsTo k i).length ≤ i * 400
  | 0, _ => by simp [rowsTo]
  | i + 1, hi => by
    have := rowsTo_len hk h i (by omega)
    have p : k ^ (i + 1) ≤ k ^ n := Nat.pow_le_pow_right hk hi
    rw [rowsTo, List.length_append, layer_len, Nat.succ_mul]
    omega
/-- the least, named -/
noncomputable def dueOf (m : Nat) (row : List Int) : Int := open Classical in if h : ∃ v, Least row m 0 row.length v then Classical.choose h else 0
theorem dueOf_eq {m : Nat} {row : List Int} {v : Int} (h : Least row m 0 row.length v) : v = dueOf m row := by
  have hx : ∃ v, Least row m 0 row.length v := ⟨v, h⟩
  unfold dueOf
  rw [dif_pos hx]
  exact h.uniq (Classical.choose_spec hx)
theorem path_ex (row : List Int) {m : Nat} (hm : 1 ≤ m) : ∀ k, ∃ st pl c, Path row m 0 k st pl c
  | 0 => ⟨_, _, _, .nil⟩
  | k + 1 => by
    obtain ⟨st, pl, c, p⟩ := path_ex row hm k
    obtain ⟨g, hg⟩ : ∃ g, (st ++ [k])[0]? = some g := by
      cases st with
      | nil => exact ⟨k, rfl⟩
      | cons x st => exact ⟨x, rfl⟩
    exact ⟨_, _, _, Path.step p 0 g hm hg⟩
theorem least_ex {row : List Int} (ok : RowOk row) {m : Nat} (hm : 1 ≤ m) : ∃ v, Least row m 0 row.length v := by
  obtain ⟨st, pl, c, p⟩ := path_ex row hm row.length
  have c0 := (path_pos ok p (Nat.le_refl _)).1
  obtain ⟨n, hn⟩ := Int.eq_ofNat_of_zero_le c0
  have go : ∀ n : Nat, (∃ st pl, Path row m 0 row.length st pl (n : Int)) → ∃ v, Least row m 0 row.length v := by
    intro n
    induction n using Nat.strongRecOn with
    | ind n ih =>
      intro h
      by_cases z : ∃ k : Nat, k < n ∧ ∃ st pl, Path row m 0 row.length st pl (k : Int)
      · obtain ⟨k, hk, q⟩ := z
        exact ih k hk q
      · refine ⟨n, h, fun st pl c q => ?_⟩
        have q0 := (path_pos ok q (Nat.le_refl _)).1
        obtain ⟨k, hk⟩ := Int.eq_ofNat_of_zero_le q0
        apply Classical.byContradiction
        intro l
        exact z ⟨k, by omega, st, pl, hk ▸ q⟩
  exact go n ⟨st, pl, hn ▸ p⟩
theorem due_dueOf {m : Nat} (hm : 1 ≤ m) : Due (dueOf m) m := fun row _ ok => by
  obtain ⟨v, h⟩ := least_ex ok hm
  rw [← dueOf_eq h]; exact h
/-- what a spot's worth starts from -/
def base (due : List Int → Int) (row : List Int) (p : Int) : Q := if row = [] then (0, 1) else (p, due row)
/-- the k-th answer -/
def nxt (row : List Int) (b : List Nat) (p : Int) (a : Nat) : List Nat × Int := (b.take a ++ [(b ++ [row.length - 1]).getD a 0], p + (row.drop ((b ++ [row.length - 1]).getD a 0)).sum)
theorem nexts_nxt (m : Nat) (row : List Int) (b : List Nat) (p : Int) : nexts m row b p = (List.range (min m (b.length + 1))).map (nxt row b p) := by
  unfold nexts
  dsimp only
  have e : ((b ++ [row.length - 1]).take m).length = min m (b.length + 1) := by simp
  rw [e]
  refine List.map_congr_left fun a ha => ?_
  have ha := List.mem_range.mp ha
  have : ((b ++ [row.length - 1]).take m).getD a 0 = (b ++ [row.length - 1]).getD a 0 := by
    rw [List.getD_eq_getElem?_getD, List.getD_eq_getElem?_getD, List.getElem?_take_of_lt (by omega)]
  rw [this]; rfl
end PG
/-! The books of a game: the keeper's and the foe's. -/
namespace PG
open PM PB
section
variable (due : List Int → Int) (m k h : Nat) (r : Q)
def Val (row : List Int) (b : List Nat) (p : Int) : Q := held due m k (h - row.length) (base due row p) row b p
def gd (row : List Int) (b : List Nat) (p : Int) : Bool := !(more (Val due m k h row b p) r)
def pickO (row : List Int) (b : List Nat) (p : Int) : Option Nat := (List.range (min m (b.length + 1))).find? fun i => gd due m k h r row (nxt row b p i).1 (nxt row b p i).2
def pick (row : List Int) (b : List Nat) (p : Int) : Nat := (pickO due m k h r row b p).getD 0
/-- where the keeper stands behind a row, told backwards -/
def posR : List Int → List Nat × Int
  | [] => ([], 0)
  | s :: t => nxt (s :: t).reverse (posR t).1 (posR t).2 (pick due m k h r (s :: t).reverse (posR t).1 (posR t).2)
def posK (row : List Int) : List Nat × Int := posR due m k h r row.reverse
/-- what the keeper answers -/
def pk (row : List Int) : Nat := pick due m k h r row (posK due m k h r row.dropLast).1 (posK due m k h r row.dropLast).2
def above (row : List Int) (p : Int) : Bool := decide (row ≠ []) && more (p, due row) r
end
section
variable {due : List Int → Int} {m k h : Nat} {r : Q}
theorem posK_nil : posK due m k h r [] = ([], 0) := rfl
theorem posK_app (row : List Int) (s : Int) : posK due m k h r (row ++ [s]) = nxt (row ++ [s]) (posK due m k h r row).1 (posK due m k h r row).2 (pk due m k h r (row ++ [s])) := by
  unfold posK pk posK
  rw [List.reverse_append, List.dropLast_concat]
  show posR due m k h r (s :: row.reverse) = _
  rw [posR]
  simp
theorem base_ne {row : List Int} (ne : row ≠ []) (p : Int) : base due row p = (p, due row) := by unfold base; rw [if_neg ne]
theorem base_pos (hd : Due due m) {row : List Int} (ok : RowOk row) (p : Int) : 0 < (base due row p).2 := by
  unfold base
  split
  · decide
  · rename_i ne; exact hd.pos ne ok
theorem Val_pos (hd : Due due m) (hm : 1 ≤ m) {row : List Int} (ok : RowOk row) (b : List Nat) (p : Int) : 0 < (Val due m k h row b p).2 := held_pos hd hm _ _ _ _ _ ok (base_pos hd ok p)
theorem gd_iff {row : List Int} {b : List Nat} {p : Int} : gd due m k h r row b p = true ↔ Le (Val due m k h row b p) r := by
  unfold gd
  cases e : more (Val due m k h row b p) r with
  | true => simpa using more_iff.mp e
  | false =>
    have : ¬ ¬ Le (Val due m k h row b p) r := fun c => by rw [more_iff.mpr c] at e; cases e
    simpa using Classical.not_not.mp this
theorem Val_next (row : List Int) (s : Int) (hl : row.length < h) (b : List Nat) (p : Int) : Val due m k h (row ++ [s]) b p = held due m k (h - row.length - 1) (p, due (row ++ [s])) (row ++ [s]) b p := by
  unfold Val
  rw [base_ne (app_ne _ _), show h - (row ++ [s]).length = h - row.length - 1 by rw [List.length_append, List.length_singleton]; omega]
/-- a good stand has a good answer to each size -/
theorem good_pick (hd : Due due m) (hm : 1 ≤ m) (hr2 : 0 < r.2) {row : List Int} (ok : RowIn k row) (hl : row.length < h) {b : List Nat} {p : Int} (g : gd due m k h r row b p = true) {s : Int} (hs : s ∈ sizes k) :
    ∃ i, pickO due m k h r (row ++ [s]) b p = some i ∧ i < min m (b.length + 1) ∧ gd due m k h r (row ++ [s]) (nxt (row ++ [s]) b p i).1 (nxt (row ++ [s]) b p i).2 = true := by
  have ok' := ok.app hs
  have g := gd_iff.mp g
  obtain ⟨n', hn⟩ : ∃ n', h - row.length = n' + 1 := ⟨h - row.length - 1, by omega⟩
  unfold Val at g
  rw [hn] at g
  have sp := (held_spec (k := k) hd hm n' (base_pos hd ok.ok p) ok.ok b p).2.1 s hs
  have an := ans_spec (k := k) hd hm n' (app_ne row s) ok'.ok b p
  have la := sp.trans an.2.1 (held_pos hd hm _ _ _ _ _ ok.ok (base_pos hd ok.ok p)) hr2 g
  obtain ⟨c, hc, ec⟩ := an.2.2.2
  rw [nexts_nxt] at hc
  obtain ⟨i, hi, rfl⟩ := List.mem_map.mp hc
  have gi : gd due m k h r (row ++ [s]) (nxt (row ++ [s]) b p i).1 (nxt (row ++ [s]) b p i).2 = true := by
    rw [gd_iff, Val_next _ _ hl, hn, Nat.add_sub_cancel, ← ec]; exact la
  cases q : pickO due m k h r (row ++ [s]) b p with
  | none =>
    unfold pickO at q
    exact absurd gi (List.find?_eq_none.mp q i hi)
  | some j =>
    unfold pickO at q
    exact ⟨j, rfl, List.mem_range.mp (List.mem_of_find?_eq_some q), List.find?_some (p := fun i => gd due m k h r (row ++ [s]) (nxt (row ++ [s]) b p i).1 (nxt (row ++ [s]) b p i).2) q⟩
theorem pickO_some {row : List Int} {b : List Nat} {p : Int} {i : Nat} (q : pickO due m k h r row b p = some i) : i < min m (b.length + 1) ∧ gd due m k h r row (nxt row b p i).1 (nxt row b p i).2 = true := by
  unfold pickO at q
  exact ⟨List.mem_range.mp (List.mem_of_find?_eq_some q), List.find?_some (p := fun i => gd due m k h r row (nxt row b p i).1 (nxt row b p i).2) q⟩
/-- a good stand is not above -/
theorem good_above (hd : Due due m) (hm : 1 ≤ m) (hr2 : 0 < r.2) {row : List Int} (ok : RowIn k row) {b : List Nat} {p : Int} (g : gd due m k h r row b p = true) : above due r row p = false := by
  unfold above
  by_cases ne : row = []
  · simp [ne]
  · have g := gd_iff.mp g
    have l0 : Le (p, due row) (Val due m k h row b p) := by
      unfold Val
      rw [base_ne ne]
      cases q : h - row.length with
      | zero => exact Le.refl _
      | succ n => exact (held_spec (k := k) hd hm n (hd.pos ne ok.ok) ok.ok b p).1
    have := l0.trans (hd.pos ne ok.ok) (Val_pos hd hm ok.ok b p) hr2 g
    have e : more (p, due row) r = false := by
      cases e : more (p, due row) r with
      | false => rfl
      | true => exact absurd this (more_iff.mp e)
    rw [e, Bool.and_false]
/-- a bad stand that is not above has a size without a good answer -/
theorem bad_size (hd : Due due m) (hm : 1 ≤ m) (hr1 : 0 ≤ r.1) (hr2 : 0 < r.2) {row : List Int} (ok : RowIn k row) {b : List Nat} {p : Int} (g : gd due m k h r row b p = false) (na : above due r row p = false) :
    row.length < h ∧ ∃ s ∈ sizes k, ∀ i, i < min m (b.length + 1) → gd due m k h r (row ++ [s]) (nxt (row ++ [s]) b p i).1 (nxt (row ++ [s]) b p i).2 = false := by
  have g : ¬ Le (Val due m k h row b p) r := fun c => by rw [gd_iff.mpr c] at g; cases g
  have nb : Le (base due row p) r := by
    by_cases ne : row = []
    · subst ne
      show (0 : Int) * r.2 ≤ r.1 * 1
      rw [Int.zero_mul, Int.mul_one]; exact hr1
    · rw [base_ne ne]
      unfold above at na
      cases e : more (p, due row) r with
      | true => rw [e] at na; simp [ne] at na
      | false => exact Classical.not_not.mp fun c => by rw [more_iff.mpr c] at e; cases e
  unfold Val at g
  cases q : h - row.length with
  | zero => rw [q] at g; exact absurd nb g
  | succ n =>
    have hl : row.length < h := by omega
    rw [q] at g
    refine ⟨hl, ?_⟩
    rcases (held_spec (k := k) hd hm n (base_pos hd ok.ok p) ok.ok b p).2.2 with e | ⟨s, hs, e⟩
    · rw [e] at g; exact absurd nb g
    · refine ⟨s, hs, fun i hi => ?_⟩
      rw [e] at g
      have ok' := ok.app hs
      have an := ans_spec (k := k) hd hm n (app_ne row s) ok'.ok b p
      have li := an.2.2.1 (nxt (row ++ [s]) b p i) (by rw [nexts_nxt]; exact List.mem_map_of_mem (List.mem_range.mpr hi))
      cases z : gd due m k h r (row ++ [s]) (nxt (row ++ [s]) b p i).1 (nxt (row ++ [s]) b p i).2 with
      | false => rfl
      | true =>
        have z := gd_iff.mp z
        rw [Val_next _ _ hl, q, Nat.add_sub_cancel] at z
        exact absurd (li.trans an.2.1 (held_pos hd hm _ _ _ _ _ ok'.ok (hd.pos (app_ne _ _) ok'.ok)) hr2 z) g
theorem nxt_at {row : List Int} {s : Int} {b : List Nat} {p : Int} (a : At m row b p) {i : Nat} (hi : i < min m (b.length + 1)) : At m (row ++ [s]) (nxt (row ++ [s]) b p i).1 (nxt (row ++ [s]) b p i).2 :=
  nexts_at (s := s) a _ (by rw [nexts_nxt]; exact List.mem_map_of_mem (List.mem_range.mpr hi))
/-- the keeper of a good root stands well everywhere -/
theorem pos_good (hd : Due due m) (hm : 1 ≤ m) (hr2 : 0 < r.2) (g0 : gd due m k h r [] [] 0 = true) : ∀ (t : List Int), RowIn k t.reverse → t.length ≤ h → At m t.reverse (posR due m k h r t).1 (posR due m k h r t).2 ∧ gd due m k h r t.reverse (posR due m k h r t).1 (posR due m k h r t).2 = true
  | [], _, _ => ⟨⟨[], .nil⟩, g0⟩
  | s :: t, hr, hl => by
    rw [List.reverse_cons] at hr ⊢
    have hr0 : RowIn k t.reverse := fun x hx => hr x (List.mem_append_left _ hx)
    rw [List.length_cons] at hl
    obtain ⟨a, g⟩ := pos_good hd hm hr2 g0 t hr0 (by omega)
    obtain ⟨i, q, hi, gi⟩ := good_pick (s := s) hd hm hr2 hr0 (by rw [List.length_reverse]; omega) g (mem_sizes.mpr (hr s (by simp)))
    rw [posR, List.reverse_cons]
    unfold pick
    rw [q]
    exact ⟨nxt_at a hi, gi⟩
theorem posK_good (hd : Due due m) (hm : 1 ≤ m) (hr2 : 0 < r.2) (g0 : gd due m k h r [] [] 0 = true) {row : List Int} (hr : RowIn k row) (hl : row.length ≤ h) : At m row (posK due m k h r row).1 (posK due m k h r row).2 ∧ gd due m k h r row (posK due m k h r row).1 (posK due m k h r row).2 = true := by
  have := pos_good hd hm hr2 g0 row.reverse (by rw [List.reverse_reverse]; exact hr) (by rw [List.length_reverse]; exact hl)
  rw [List.reverse_reverse] at this
  exact this
theorem pk_ok (hd : Due due m) (hm : 1 ≤ m) (hr2 : 0 < r.2) (g0 : gd due m k h r [] [] 0 = true) {row : List Int} {s : Int} (hr : RowIn k (row ++ [s])) (hl : row.length < h) : pk due m k h r (row ++ [s]) < min m ((posK due m k h r row).1.length + 1) ∧ above due r (row ++ [s]) (posK due m k h r (row ++ [s])).2 = false := by
  have hr0 : RowIn k row := fun x hx => hr x (List.mem_append_left _ hx)
  obtain ⟨a, g⟩ := posK_good hd hm hr2 g0 hr0 (by omega)
  obtain ⟨i, q, hi, gi⟩ := good_pick (s := s) hd hm hr2 hr0 hl g (mem_sizes.mpr (hr s (by simp)))
  refine ⟨?_, ?_⟩
  · unfold pk
    rw [List.dropLast_concat]
    unfold pick
    rw [q]; exact hi
  · exact good_above hd hm hr2 hr (posK_good hd hm hr2 g0 hr (by rw [List.length_append, List.length_singleton]; omega)).2
end
/-- a row's parent comes before it -/
theorem rowsTo_prev {k : Nat} : ∀ (n : Nat) (i : Nat) (row : List Int), (rowsTo k n)[i]? = some row → ∃ row0 s, row = row0 ++ [s] ∧ (row0 = [] ∨ ∃ j, j < i ∧ (rowsTo k n)[j]? = some row0)
  | 0, i, row, q => by cases q
  | n + 1, i, row, q => by
    rw [rowsTo] at q ⊢
    by_cases z : i < (rowsTo k n).length
    · rw [List.getElem?_append_left z] at q
      obtain ⟨row0, s, e, h⟩ := rowsTo_prev n i row q
      refine ⟨row0, s, e, ?_⟩
      rcases h with h | ⟨j, hj, h⟩
      · exact .inl h
      · exact .inr ⟨j, hj, by rw [List.getElem?_append_left (by omega)]; exact h⟩
    · rw [List.getElem?_append_right (by omega)] at q
      obtain ⟨h1, h2⟩ := (mem_layer (n + 1) row).mp (List.mem_of_getElem? q)
      have ne : row ≠ [] := by rintro rfl; cases h1
      refine ⟨row.dropLast, row.getLast ne, (List.dropLast_concat_getLast ne).symm, ?_⟩
      by_cases z0 : row.dropLast = []
      · exact .inl z0
      · have mem := (mem_rowsTo n row.dropLast).mpr ⟨z0, by rw [List.length_dropLast]; omega, fun s hs => h2 s (List.dropLast_subset _ hs)⟩
        obtain ⟨j, hj⟩ := List.getElem?_of_mem mem
        have := (List.getElem?_eq_some_iff.mp hj).1
        exact .inr ⟨j, by omega, by rw [List.getElem?_append_left this]; exact hj⟩
theorem sizes_nodup (k : Nat) : (sizes k).Nodup := by
  unfold sizes
  rw [List.nodup_iff_pairwise_ne, List.pairwise_map]
  exact List.nodup_range.imp fun h e => h (by omega)
theorem layer_nodup (k : Nat) : ∀ n, (layer k n).Nodup
  | 0 => by simp [layer]
  | n + 1 => by
    rw [layer, List.nodup_iff_pairwise_ne, List.pairwise_flatMap]
    refine ⟨fun r _ => ?_, ?_⟩
    · rw [List.pairwise_map]
      exact (sizes_nodup k).imp fun h e => h (by simpa using e)
    · refine (layer_nodup k n).imp fun h x hx y hy e => h ?_
      obtain ⟨s, _, rfl⟩ := List.mem_map.mp hx
      obtain ⟨t, _, rfl⟩ := List.mem_map.mp hy
      have := congrArg List.dropLast e
      rw [List.dropLast_concat, List.dropLast_concat] at this
      exact this
theorem rowsTo_nodup (k : Nat) : ∀ n, (rowsTo k n).Nodup
  | 0 => List.nodup_nil
  | n + 1 => by
    rw [rowsTo]
    refine List.nodup_append.mpr ⟨rowsTo_nodup k n, layer_nodup k (n + 1), fun a ha b hb e => ?_⟩
    subst e
    have h1 := ((mem_rowsTo n a).mp ha).2.1
    have h2 := ((mem_layer (n + 1) a).mp hb).1
    omega
end PG
/-! The foe's book. -/
namespace PG
open PM PB
section
variable (due : List Int → Int) (m k h : Nat) (r : Q)
def bads (row : List Int) (b : List Nat) (p : Int) : Bool := (List.range (min m (b.length + 1))).all fun i => !(gd due m k h r row (nxt row b p i).1 (nxt row b p i).2)
def fs (row : List Int) (b : List Nat) (p : Int) : Option Int := (sizes k).find? fun s => bads due m k h r (row ++ [s]) b p
/-- the foe's words from a stand on -/
def FE : Nat → List Int → List Nat → List Nat → Int → List (List Nat × Int)
  | 0, _, _, _, _ => []
  | n + 1, row, as, b, p => if above due r row p = true then [(as, 0)] else match fs due m k h r row b p with
    | none => []
    | some s => (as, s) :: (List.range (min m (b.length + 1))).flatMap fun i => FE n (row ++ [s]) (as ++ [i]) (nxt (row ++ [s]) b p i).1 (nxt (row ++ [s]) b p i).2
end
section
variable {due : List Int → Int} {m k h : Nat} {r : Q}
theorem FE_above {n : Nat} {row : List Int} {as b : List Nat} {p : Int} (a : above due r row p = true) : FE due m k h r (n + 1) row as b p = [(as, 0)] := by rw [FE, if_pos a]
theorem FE_some {n : Nat} {row : List Int} {as b : List Nat} {p s : Int} (a : above due r row p = false) (f : fs due m k h r row b p = some s) : FE due m k h r (n + 1) row as b p = (as, s) :: (List.range (min m (b.length + 1))).flatMap fun i => FE due m k h r n (row ++ [s]) (as ++ [i]) (nxt (row ++ [s]) b p i).1 (nxt (row ++ [s]) b p i).2 := by
  rw [FE, if_neg (by rw [a]; exact Bool.false_ne_true), f]
theorem FE_pre : ∀ (n : Nat) (row : List Int) (as b : List Nat) (p : Int), ∀ e ∈ FE due m k h r n row as b p, ∃ t, e.1 = as ++ t
  | 0, _, _, _, _, e, he => nomatch he
  | n + 1, row, as, b, p, e, he => by
    rw [FE] at he
    split at he
    · rw [List.mem_singleton.mp he]; exact ⟨[], by simp⟩
    · split at he
      · cases he
      · rcases List.mem_cons.mp he with rfl | he
        · exact ⟨[], by simp⟩
        · obtain ⟨i, hi, he⟩ := List.mem_flatMap.mp he
          obtain ⟨t, ht⟩ := FE_pre n _ _ _ _ e he
          exact ⟨i :: t, by rw [ht]; simp⟩
theorem flat_len {α : Type} {f : Nat → List α} {c : Nat} : ∀ is : List Nat, (∀ i ∈ is, 3 * (f i).length + 1 ≤ c) → 3 * (is.flatMap f).length + is.length ≤ is.length * c
  | [], _ => by simp
  | i :: is, hi => by
    have h1 := hi i List.mem_cons_self
    have h2 := flat_len is fun j hj => hi j (List.mem_cons_of_mem _ hj)
    rw [List.flatMap_cons, List.length_append, List.length_cons, Nat.add_mul, Nat.one_mul]
    omega
theorem FE_len (hm : m ≤ 4) : ∀ (n : Nat) (row : List Int) (as b : List Nat) (p : Int), 3 * (FE due m k h r n row as b p).length + 1 ≤ 4 ^ n
  | 0, _, _, _, _ => by simp [FE]
  | n + 1, row, as, b, p => by
    rw [FE]
    have p1 : 1 ≤ 4 ^ n := Nat.pow_pos (by decide)
    rw [Nat.pow_succ]
    split
    · rw [List.length_singleton]; omega
    · split
      · simp; omega
      · rename_i s _
        have := flat_len (f := fun i => FE due m k h r n (row ++ [s]) (as ++ [i]) (nxt (row ++ [s]) b p i).1 (nxt (row ++ [s]) b p i).2) (c := 4 ^ n) (List.range (min m (b.length + 1))) fun i _ => FE_len hm n _ _ _ _
        rw [List.length_range] at this
        have h4 : min m (b.length + 1) * (4 ^ n - 1) ≤ 4 * (4 ^ n - 1) := Nat.mul_le_mul_right _ (by omega)
        rw [Nat.mul_sub, Nat.mul_sub, Nat.mul_one, Nat.mul_one] at h4
        have h5 : min m (b.length + 1) * 1 ≤ min m (b.length + 1) * 4 ^ n := Nat.mul_le_mul_left _ p1
        rw [List.length_cons]
        omega
theorem FE_nodup : ∀ (n : Nat) (row : List Int) (as b : List Nat) (p : Int), ((FE due m k h r n row as b p).map (·.1)).Nodup
  | 0, _, _, _, _ => by simp [FE]
  | n + 1, row, as, b, p => by
    rw [FE]
    split
    · simp
    · split
      · simp
      · rename_i s _
        rw [List.map_cons]
        refine List.nodup_cons.mpr ⟨fun z => ?_, ?_⟩
        · obtain ⟨e, he, q⟩ := List.mem_map.mp z
          obtain ⟨i, hi, he⟩ := List.mem_flatMap.mp he
          obtain ⟨t, ht⟩ := FE_pre n _ _ _ _ e he
          rw [ht] at q
          have := congrArg List.length q
          simp at this
        · rw [List.map_flatMap, List.nodup_iff_pairwise_ne, List.pairwise_flatMap]
          refine ⟨fun i _ => List.nodup_iff_pairwise_ne.mp (FE_nodup n _ _ _ _), ?_⟩
          refine List.nodup_range.imp fun {i j} ne x hx y hy q => ne ?_
          obtain ⟨e, he, rfl⟩ := List.mem_map.mp hx
          obtain ⟨f, hf, rfl⟩ := List.mem_map.mp hy
          obtain ⟨t, ht⟩ := FE_pre n _ _ _ _ e he
          obtain ⟨u, hu⟩ := FE_pre n _ _ _ _ f hf
          rw [ht, hu] at q
          have : i = j ∧ t = u := by simpa using q
          exact this.1
/-- a bad stand, not above: the size that the foe goes on with -/
theorem fs_ok (hd : Due due m) (hm : 1 ≤ m) (hr1 : 0 ≤ r.1) (hr2 : 0 < r.2) {row : List Int} (ok : RowIn k row) {b : List Nat} {p : Int} (g : gd due m k h r row b p = false) (na : above due r row p = false) :
    row.length < h ∧ ∃ s ∈ sizes k, fs due m k h r row b p = some s ∧ ∀ i, i < min m (b.length + 1) → gd due m k h r (row ++ [s]) (nxt (row ++ [s]) b p i).1 (nxt (row ++ [s]) b p i).2 = false := by
  obtain ⟨hl, s, hs, bad⟩ := bad_size hd hm hr1 hr2 ok g na
  refine ⟨hl, ?_⟩
  have bs : bads due m k h r (row ++ [s]) b p = true := by
    unfold bads
    rw [List.all_eq_true]
    intro i hi
    rw [bad i (List.mem_range.mp hi)]; rfl
  cases q : fs due m k h r row b p with
  | none =>
    unfold fs at q
    exact absurd bs (List.find?_eq_none.mp q s hs)
  | some t =>
    unfold fs at q
    have bt := List.find?_some (p := fun s => bads due m k h r (row ++ [s]) b p) q
    refine ⟨t, List.mem_of_find?_eq_some q, rfl, fun i hi => ?_⟩
    have bt : bads due m k h r (row ++ [t]) b p = true := bt
    unfold bads at bt
    rw [List.all_eq_true] at bt
    have := bt i (List.mem_range.mpr hi)
    simpa using this
theorem bads_iff {row : List Int} {b : List Nat} {p : Int} : bads due m k h r row b p = !((List.range (min m (b.length + 1))).any fun i => gd due m k h r row (nxt row b p i).1 (nxt row b p i).2) := by
  unfold bads
  rw [List.not_any_eq_all_not]
end
end PG
namespace PB
/-- a loop that may end early with r, the memory as it is -/
theorem forL_chk' {g : J.CG} {s : J.CS} {α : Type} {M : J.Mem} (el : α → J.D) (r : J.D) (P : Nat → J.Env → Prop) : ∀ (xs : List α) (i0 : Nat)
    (h : ∀ (i : Nat) (x : α) E, xs[i]? = some x → P (i0 + i) E → ∃ E1 E2, g (el x) E = some E1 ∧ ((s E1 M = .ok (.nx, E2) M ∧ P (i0 + i + 1) E2) ∨ s E1 M = .ok (.rt r, E2) M)) (E : J.Env), P i0 E →
    (∃ E', J.forL g s (xs.map el) E M = .ok (.nx, E') M ∧ P (i0 + xs.length) E') ∨ ∃ E', J.forL g s (xs.map el) E M = .ok (.rt r, E') M
  | [], i0, h, E, p => .inl ⟨E, rfl, by simpa using p⟩
  | x :: xs, i0, h, E, p => by
    obtain ⟨E1, E2, h1, h2⟩ := h 0 x E (by simp) (by simpa using p)
    rw [List.map_cons, J.forL, h1]
    dsimp only
    rcases h2 with ⟨h2, p2⟩ | h2
    · rw [h2]
      have := PB.forL_chk' el r P xs (i0 + 1) (fun i y E hy hp => by
        have := h (i + 1) y E (by simpa using hy) (by rw [show i0 + (i + 1) = i0 + 1 + i by omega]; exact hp)
        rw [show i0 + (i + 1) + 1 = i0 + 1 + i + 1 by omega] at this
        exact this) E2 (by simpa using p2)
      rw [List.length_cons, show i0 + (xs.length + 1) = i0 + 1 + xs.length by omega]
      exact this
    · rw [h2]
      exact .inr ⟨E2, rfl⟩
end PB
namespace K82
open PySem J

def ct : List (Str × List Str) := [("Task", ["writes", "looks"]), ("Solver", ["task", "may", "costs", "plans", "counts"]), ("Spot", ["row", "answers", "begins", "cost"]), ("Game", ["most", "hours", "sizes", "least"])]

def F__law_hand : Fn := body 3 1 (sSeq (sAsg (gN 1) (cComp [2] (iSeq (cSl (cV 0) oNone (oSome (cC (.int 63))))) (gN 2) tYes (c1 gAbs (c1 gInt (cV 2))))) (sRet (cNew (cLst (aCons (cV 1) (aCons (cC (.int 0)) (aCons (cC (.int 0)) (aCons (c2 gAdd (cC (.int 1)) (c1 gLen (cV 1))) (aCons (cC (.int 0)) aNil)))))))))

def F__law_draw : Fn := body 5 2 (sSeq (sIf (tAnd (tV (c2 gEq (c2 gIx (cV 0) (cC (.int 2))) (cC (.int 0)))) (tV (c2 gLt (c2 gIx (cV 0) (cC (.int 1))) (c1 gLen (c2 gIx (cV 0) (cC (.int 0))))))) (sSeq (sAsg (gN 3) (c2 gIx (c2 gIx (cV 0) (cC (.int 0))) (c2 gIx (cV 0) (cC (.int 1))))) (sSeq (sSetL (rLoc (cV 0)) (cC (.int 1)) (c2 gAdd (c2 gIx (cV 0) (cC (.int 1))) (cC (.int 1)))) (sSeq (sSetL (rLoc (cV 0)) (cC (.int 3)) (c2 gMod (c1 gInt (c2 gAdd (c2 gAdd (c2 gMul (c2 gIx (cV 0) (cC (.int 3))) (cC (.int 69621))) (cV 3)) (cC (.int 11)))) (cC (.int 2147483629)))) (sIf (tV (c2 gGe (cV 3) (c2 gPow (cC (.int 10)) (cC (.int 18))))) (sSetL (rLoc (cV 0)) (cC (.int 2)) (cV 3)) sNil)))) sNil) (sSeq (sIf (tV (c2 gGt (c2 gIx (cV 0) (cC (.int 2))) (cC (.int 0)))) (sSeq (sAsg (gN 4) (c2 gMod (c1 gInt (c2 gIx (cV 0) (cC (.int 2)))) (cV 1))) (sSeq (sSetL (rLoc (cV 0)) (cC (.int 2)) (c2 gDiv (c2 gIx (cV 0) (cC (.int 2))) (cV 1))) (sRet (cV 4)))) sNil) (sSeq (sSetL (rLoc (cV 0)) (cC (.int 4)) (c2 gAdd (c2 gIx (cV 0) (cC (.int 4))) (cC (.int 1)))) (sSeq (sAsg (gN 2) (c2 gMod (c1 gInt (c2 gMul (c1 gInt (c2 gAdd (c2 gIx (cV 0) (cC (.int 3))) (c2 gMul (cC (.int 7919)) (c2 gIx (cV 0) (cC (.int 4)))))) (cC (.int 48271)))) (cC (.int 2147483647)))) (sSeq (sAsg (gN 2) (c2 gMod (c1 gInt (c2 gMul (cV 2) (c2 gAdd (c2 gDiv (cV 2) (cC (.int 1009))) (cC (.int 69621))))) (cC (.int 2147483647)))) (sSeq (sAsg (gN 2) (c2 gMod (c1 gInt (c2 gMul (cV 2) (c2 gAdd (c2 gDiv (cV 2) (cC (.int 2003))) (cC (.int 40692))))) (cC (.int 2147483399)))) (sRet (c2 gMod (c1 gInt (c2 gDiv (cV 2) (cC (.int 16)))) (cV 1)))))))))

def F__law_game : Fn := body 3 1 (sSeq (sAsg (gT [(gN 1), (gN 2)]) (c2 gIx (cLst (aCons (cTup (aCons (cC (.int 1)) (aCons (cC (.int 3)) aNil))) (aCons (cTup (aCons (cC (.int 2)) (aCons (cC (.int 2)) aNil))) (aCons (cTup (aCons (cC (.int 3)) (aCons (cC (.int 2)) aNil))) (aCons (cTup (aCons (cC (.int 3)) (aCons (cC (.int 3)) aNil))) (aCons (cTup (aCons (cC (.int 2)) (aCons (cC (.int 4)) aNil))) (aCons (cTup (aCons (cC (.int 4)) (aCons (cC (.int 1)) aNil))) (aCons (cTup (aCons (cC (.int 6)) (aCons (cC (.int 1)) aNil))) (aCons (cTup (aCons (cC (.int 4)) (aCons (cC (.int 2)) aNil))) aNil))))))))) (cCall0 (ifN 2 F__law_draw) (aCons (cV 0) (aCons (cC (.int 8)) aNil))))) (sSeq (sIf (tV (c2 gEq (cCall0 (ifN 2 F__law_draw) (aCons (cV 0) (aCons (cC (.int 40)) aNil))) (cC (.int 0)))) (sAsg (gT [(gN 1), (gN 2)]) (c2 gIx (cLst (aCons (cTup (aCons (cC (.int 3)) (aCons (cC (.int 4)) aNil))) (aCons (cTup (aCons (cC (.int 4)) (aCons (cC (.int 3)) aNil))) (aCons (cTup (aCons (cC (.int 5)) (aCons (cC (.int 2)) aNil))) (aCons (cTup (aCons (cC (.int 4)) (aCons (cC (.int 4)) aNil))) (aCons (cTup (aCons (cC (.int 5)) (aCons (cC (.int 3)) aNil))) (aCons (cTup (aCons (cC (.int 6)) (aCons (cC (.int 2)) aNil))) aNil))))))) (cCall0 (ifN 2 F__law_draw) (aCons (cV 0) (aCons (cC (.int 6)) aNil))))) sNil) (sRet (cLst (aCons (c2 gAdd (cC (.int 1)) (cCall0 (ifN 2 F__law_draw) (aCons (cV 0) (aCons (cC (.int 4)) aNil)))) (aCons (cV 1) (aCons (cV 2) (aCons (cNew cDT) aNil))))))))

def F__law_least : Fn := body 10 2 (sSeq (sAsg (gN 2) (cDT1 (cTup aNil) (cC (.int 0)))) (sSeq (sFor (iRng (c1 gLen (cV 0))) (gN 3) (sSeq (sOwn 4 cDT) (sSeq (sFor (iKey (cV 2)) (gN 5) (sFor (iEnum (cSl (c2 gAdd (cV 5) (cTup (aCons (cV 3) aNil))) oNone (oSome (cV 1)))) (gT [(gN 6), (gN 7)]) (sSeq (sAsg (gN 8) (c2 gAdd (cSl (cV 5) oNone (oSome (cV 6))) (cTup (aCons (cV 7) aNil)))) (sSeq (sAsg (gN 9) (c2 gAdd (c2 gIx (cV 2) (cV 5)) (c1 gSum (cSl (cV 0) (oSome (cV 7)) (oSome (c2 gAdd (cV 3) (cC (.int 1)))))))) (sIf (tOr (tV (c2 gNotIn (cV 8) (oV 4))) (tV (c2 gLt (cV 9) (c2 gIx (oV 4) (cV 8))))) (sPut (rOwn 4) (cV 8) (cV 9)) sNil))))) (sSeq (sFrz 4) (sAsg (gN 2) (cV 4)))))) (sRet (c1 gMin (c1 gVals (cV 2))))))

def F__law_due : Fn := body 2 2 (sSeq (sIf (tV (c2 gNotIn (cV 1) (c2 gIx (cV 0) (cC (.int 3))))) (sPut (rLoc (c2 gIx (cV 0) (cC (.int 3)))) (cV 1) (cCall0 (ifN 2 F__law_least) (aCons (cV 1) (aCons (c2 gIx (cV 0) (cC (.int 0))) aNil)))) sNil) (sRet (c2 gIx (c2 gIx (cV 0) (cC (.int 3))) (cV 1))))

def F__law_more : Fn := body 2 2 (sRet (c2 gGt (c2 gMul (c2 gIx (cV 0) (cC (.int 0))) (c2 gIx (cV 1) (cC (.int 1)))) (c2 gMul (c2 gIx (cV 1) (cC (.int 0))) (c2 gIx (cV 0) (cC (.int 1))))))

def F__law_answered (r__law_held : Fn) : Fn := body 9 4 (sSeq (sAsg (gN 4) (cC .non)) (sSeq (sAsg (gN 5) (c2 gSub (c1 gLen (cV 1)) (cC (.int 1)))) (sSeq (sFor (iEnum (cSl (c2 gAdd (cV 2) (cTup (aCons (cV 5) aNil))) oNone (oSome (c2 gIx (cV 0) (cC (.int 0)))))) (gT [(gN 6), (gN 7)]) (sSeq (sAsg (gN 8) (cCall0 (ifN 4 r__law_held) (aCons (cV 0) (aCons (cV 1) (aCons (c2 gAdd (cSl (cV 2) oNone (oSome (cV 6))) (cTup (aCons (cV 7) aNil))) (aCons (c2 gAdd (cV 3) (c1 gSum (cSl (cV 1) (oSome (cV 7)) oNone))) aNil)))))) (sIf (tOr (tV (c1 gIsN (cV 4))) (tV (cCall0 (ifN 2 F__law_more) (aCons (cV 4) (aCons (cV 8) aNil))))) (sAsg (gN 4) (cV 8)) sNil))) (sRet (cV 4)))))

def F__law_held : Nat → Fn
  | 0 => noF
  | n + 1 =>
    let r__law_held := F__law_held n
    body 7 4 (sSeq (sAsg (gN 4) (cTup (aCons (cV 3) (aCons (cCall0 (ifN 2 F__law_due) (aCons (cV 0) (aCons (cV 1) aNil))) aNil)))) (sSeq (sIf (tV (c2 gLt (c1 gLen (cV 1)) (c2 gIx (cV 0) (cC (.int 1))))) (sFor (iRng2 (cC (.int 1)) (c2 gAdd (c2 gIx (cV 0) (cC (.int 2))) (cC (.int 1)))) (gN 5) (sSeq (sAsg (gN 6) (cCall0 (ifN 4 (F__law_answered r__law_held)) (aCons (cV 0) (aCons (c2 gAdd (cV 1) (cTup (aCons (cV 5) aNil))) (aCons (cV 2) (aCons (cV 3) aNil)))))) (sIf (tV (cCall0 (ifN 2 F__law_more) (aCons (cV 6) (aCons (cV 4) aNil)))) (sAsg (gN 4) (cV 6)) sNil))) sNil) (sRet (cV 4))))

def F__law_lowest : Fn := body 4 1 (sSeq (sAsg (gT [(gN 2), (gN 3)]) (cV 0)) (sSeq (sFor (iRng (cC (.int 400))) (gN 1) (sSeq (sIf (tV (c2 gEq (cV 3) (cC (.int 0)))) sBreak sNil) (sPar 2 3 (aCons (cV 3) (aCons (c2 gMod (c1 gInt (cV 2)) (cV 3)) aNil))))) (sRet (cTup (aCons (c2 gDiv (c2 gIx (cV 0) (cC (.int 0))) (cV 2)) (aCons (c2 gDiv (c2 gIx (cV 0) (cC (.int 1))) (cV 2)) aNil))))))

def F__law_surest : Fn := body 4 1 (sSeq (sAsg (gN 1) (cTup (aCons (cC (.int 0)) (aCons (cC (.int 1)) aNil)))) (sSeq (sFor (iRng2 (cC (.int 1)) (c2 gAdd (c2 gIx (cV 0) (cC (.int 2))) (cC (.int 1)))) (gN 2) (sSeq (sAsg (gN 3) (cCall0 (ifN 4 (F__law_answered (F__law_held 8))) (aCons (cV 0) (aCons (cTup (aCons (cV 2) aNil)) (aCons (cTup aNil) (aCons (cC (.int 0)) aNil)))))) (sIf (tV (cCall0 (ifN 2 F__law_more) (aCons (cV 3) (aCons (cV 1) aNil)))) (sAsg (gN 1) (cV 3)) sNil))) (sRet (cCall0 (ifN 1 F__law_lowest) (aCons (cV 1) aNil)))))

def F_is_integer : Fn := body 1 1 (sRet (cAnd (c1 (gIsI "int") (cV 0)) (cNot (c1 (gIsI "bool") (cV 0)))))

def F_is_within : Fn := body 3 3 (sRet (cAnd (cCall0 (ifN 1 F_is_integer) (aCons (cV 0) aNil)) (cCh gLe gLe (cV 1) (cV 0) (cV 2))))

def F_check_number : Fn := body 3 3 (sIf (tNot (tV (cCall0 (ifN 3 F_is_within) (aCons (cV 0) (aCons (cV 1) (aCons (cV 2) aNil)))))) sNever sNil)

def F_check_game : Fn := body 3 3 (sSeq (sExpr (cCall0 (ifN 3 F_check_number) (aCons (cV 0) (aCons (cC (.int 1)) (aCons (cC (.int 4)) aNil))))) (sSeq (sExpr (cCall0 (ifN 3 F_check_number) (aCons (cV 1) (aCons (cC (.int 1)) (aCons (cC (.int 6)) aNil))))) (sExpr (cCall0 (ifN 3 F_check_number) (aCons (cV 2) (aCons (cC (.int 1)) (aCons (cC (.int 4)) aNil)))))))

def F_is_pair : Fn := body 1 1 (sRet (cAnd (c1 (gIsI "tuple") (cV 0)) (c2 gEq (c1 gLen (cV 0)) (cC (.int 2)))))

def F_common_divisor : Fn := body 2 2 (sSeq (whileN (tV (c2 gNe (cV 1) (cC (.int 0)))) (sPar 0 1 (aCons (cV 1) (aCons (c2 gMod (cV 0) (cV 1)) aNil))) 400) (sRet (cV 0)))

def F_is_fraction : Fn := body 1 1 (sSeq (sIf (tOr (tNot (tV (cCall0 (ifN 1 F_is_pair) (aCons (cV 0) aNil)))) (tOr (tNot (tV (cCall0 (ifN 1 F_is_integer) (aCons (c2 gIx (cV 0) (cC (.int 0))) aNil)))) (tNot (tV (cCall0 (ifN 1 F_is_integer) (aCons (c2 gIx (cV 0) (cC (.int 1))) aNil)))))) (sRet (cC (.bl false))) sNil) (sRet (cAnd (c2 gGe (c2 gIx (cV 0) (cC (.int 0))) (cC (.int 0))) (cAnd (c2 gGt (c2 gIx (cV 0) (cC (.int 1))) (cC (.int 0))) (c2 gEq (cCall0 (ifN 2 F_common_divisor) (aCons (c2 gIx (cV 0) (cC (.int 0))) (aCons (c2 gIx (cV 0) (cC (.int 1))) aNil))) (cC (.int 1)))))))

def F_check_many : Fn := body 2 2 (sIf (tV (c2 gGt (cV 0) (cV 1))) sNever sNil)

def F_check_small : Fn := body 4 2 (sSeq (sAsg (gN 2) (cC (.int 1))) (sSeq (sFor (iRng (cV 0)) (gN 3) (sAug 2 jMul (cV 1))) (sExpr (cCall0 (ifN 2 F_check_many) (aCons (cV 2) (aCons (cC (.int 400)) aNil))))))

def F_check_ratio_game : Fn := body 4 4 (sSeq (sExpr (cCall0 (ifN 3 F_check_game) (aCons (cV 0) (aCons (cV 1) (aCons (cV 2) aNil))))) (sSeq (sIf (tNot (tV (cCall0 (ifN 1 F_is_fraction) (aCons (cV 3) aNil)))) sNever sNil) (sExpr (cCall0 (ifN 2 F_check_small) (aCons (cV 1) (aCons (cV 2) aNil))))))

def F_Game_is_above : Fn := body 3 3 (sRet (cAnd (c2 gGt (c1 gLen (c1 (gFld 2 0) (cV 1))) (cC (.int 0))) (c2 gGt (c2 gMul (c1 (gFld 2 3) (cV 1)) (c2 gIx (cV 2) (cC (.int 1)))) (c2 gMul (c2 gIx (cV 2) (cC (.int 0))) (c2 gIx (c1 (gFld 3 3) (cV 0)) (c1 (gFld 2 0) (cV 1)))))))

def F_Game_answers_at : Fn := body 2 2 (sRet (cLRg (c2 gAdd (c2 gMin2 (c1 gLen (c1 (gFld 2 2) (cV 1))) (c2 gSub (c1 (gFld 3 0) (cV 0)) (cC (.int 1)))) (cC (.int 1)))))

def F_is_less : Fn := body 2 2 (sRet (c2 gLt (c2 gMul (c2 gIx (cV 0) (cC (.int 0))) (c2 gIx (cV 1) (cC (.int 1)))) (c2 gMul (c2 gIx (cV 1) (cC (.int 0))) (c2 gIx (cV 0) (cC (.int 1))))))

def F_lowest : Fn := body 3 2 (sSeq (sAsg (gN 2) (cCall0 (ifN 2 F_common_divisor) (aCons (cV 0) (aCons (cV 1) aNil)))) (sRet (cTup (aCons (c2 gDiv (cV 0) (cV 2)) (aCons (c2 gDiv (cV 1) (cV 2)) aNil)))))

def F_behind_answer : Fn := body 3 3 (sRet (c2 gAdd (cSl (cV 0) oNone (oSome (cV 2))) (cTup (aCons (cIf (tV (c2 gLt (cV 2) (c1 gLen (cV 0)))) (c2 gIx (cV 0) (cV 2)) (cV 1)) aNil))))

def F_Spot___init__ : Fn := body 5 5 (sSeq (sFld 2 0 (rLoc (cV 0)) (cV 1)) (sSeq (sFld 2 1 (rLoc (cV 0)) (cV 2)) (sSeq (sFld 2 2 (rLoc (cV 0)) (cV 3)) (sFld 2 3 (rLoc (cV 0)) (cV 4)))))

def F_Spot_behind : Fn := body 5 3 (sSeq (sAsg (gN 3) (c2 gAdd (c1 (gFld 2 0) (cV 0)) (cTup (aCons (cV 1) aNil)))) (sSeq (sAsg (gN 4) (cCall0 (ifN 3 F_behind_answer) (aCons (c1 (gFld 2 2) (cV 0)) (aCons (c1 gLen (c1 (gFld 2 0) (cV 0))) (aCons (cV 2) aNil))))) (sRet (cMkN 2 5 F_Spot___init__ (aCons (cV 3) (aCons (c2 gAdd (c1 (gFld 2 1) (cV 0)) (cTup (aCons (cV 2) aNil))) (aCons (cV 4) (aCons (c2 gAdd (c1 (gFld 2 3) (cV 0)) (c1 gSum (cSl (cV 3) (oSome (c2 gIx (cV 4) (c1 gNeg (cC (.int 1))))) oNone))) aNil))))))))

def F_Game_worth : Nat → Fn
  | 0 => noF
  | n + 1 =>
    let r_Game_worth := F_Game_worth n
    body 7 2 (sSeq (sAsg (gN 2) (cIf (tV (c2 gGt (c1 gLen (c1 (gFld 2 0) (cV 1))) (cC (.int 0)))) (cCall0 (ifN 2 F_lowest) (aCons (c1 (gFld 2 3) (cV 1)) (aCons (c2 gIx (c1 (gFld 3 3) (cV 0)) (c1 (gFld 2 0) (cV 1))) aNil))) (cTup (aCons (cC (.int 0)) (aCons (cC (.int 1)) aNil))))) (sSeq (sIf (tV (c2 gLt (c1 gLen (c1 (gFld 2 0) (cV 1))) (c1 (gFld 3 1) (cV 0)))) (sFor (iSeq (c1 (gFld 3 2) (cV 0))) (gN 3) (sSeq (sAsg (gN 4) (cC .non)) (sSeq (sFor (iSeq (cMethN 3 2 F_Game_answers_at (cV 0) (aCons (cV 1) aNil))) (gN 5) (sSeq (sAsg (gN 6) (cMethN 3 2 r_Game_worth (cV 0) (aCons (cMethN 2 3 F_Spot_behind (cV 1) (aCons (cV 3) (aCons (cV 5) aNil))) aNil))) (sIf (tOr (tV (c1 gIsN (cV 4))) (tV (cCall0 (ifN 2 F_is_less) (aCons (cV 6) (aCons (cV 4) aNil))))) (sAsg (gN 4) (cV 6)) sNil))) (sAsg (gN 2) (cIf (tV (cCall0 (ifN 2 F_is_less) (aCons (cV 2) (aCons (cV 4) aNil)))) (cV 4) (cV 2)))))) sNil) (sRet (cV 2))))

def F_Game_holds : Fn := body 3 3 (sRet (cNot (cCall0 (ifN 2 F_is_less) (aCons (cV 2) (aCons (cMethN 3 2 (F_Game_worth 8) (cV 0) (aCons (cV 1) aNil)) aNil)))))

def F_Game_good_answer : Fn := body 5 4 (sSeq (sFor (iSeq (cMethN 3 2 F_Game_answers_at (cV 0) (aCons (cV 1) aNil))) (gN 4) (sIf (tV (cMethN 3 3 F_Game_holds (cV 0) (aCons (cMethN 2 3 F_Spot_behind (cV 1) (aCons (cV 2) (aCons (cV 4) aNil))) (aCons (cV 3) aNil)))) (sRet (cV 4)) sNil)) (sRet (cC .non)))

def F_Game_keeper_holds : Nat → Fn
  | 0 => noF
  | n + 1 =>
    let r_Game_keeper_holds := F_Game_keeper_holds n
    body 6 4 (sSeq (sIf (tV (cMethN 3 3 F_Game_is_above (cV 0) (aCons (cV 1) (aCons (cV 2) aNil)))) (sRet (cC (.bl false))) sNil) (sSeq (sIf (tV (c2 gEq (c1 gLen (c1 (gFld 2 0) (cV 1))) (c1 (gFld 3 1) (cV 0)))) (sRet (cC (.bl true))) sNil) (sSeq (sFor (iSeq (c1 (gFld 3 2) (cV 0))) (gN 4) (sSeq (sAsg (gN 5) (cMethN 3 4 F_Game_good_answer (cV 0) (aCons (cV 1) (aCons (cV 4) (aCons (cV 2) aNil))))) (sSeq (sIf (tV (c1 gIsN (cV 5))) (sRet (cC (.bl false))) sNil) (sSeq (sPut (rLoc (cV 3)) (c2 gAdd (c1 (gFld 2 0) (cV 1)) (cTup (aCons (cV 4) aNil))) (cV 5)) (sExpr (cMethN 3 4 r_Game_keeper_holds (cV 0) (aCons (cMethN 2 3 F_Spot_behind (cV 1) (aCons (cV 4) (aCons (cV 5) aNil))) (aCons (cV 2) (aCons (cV 3) aNil))))))))) (sRet (cC (.bl true))))))

def F_rows_of : Fn := body 7 2 (sSeq (sOwn 2 (cLst aNil)) (sSeq (sAsg (gN 3) (cLst (aCons (cTup aNil) aNil))) (sSeq (sFor (iRng (cV 0)) (gN 4) (sSeq (sAsg (gN 3) (cComp2 [5, 6] [6] (iSeq (cV 3)) (gN 5) tYes (iRng2 (cC (.int 1)) (c2 gAdd (cV 1) (cC (.int 1)))) (gN 6) tYes (c2 gAdd (cV 5) (cTup (aCons (cV 6) aNil))))) (sExt (rOwn 2) (cV 3)))) (sSeq (sFrz 2) (sRet (cV 2))))))

def F_Solver_capped : Fn := body 4 4 (sRet (cTup (aCons (c2 gMin2 (cV 1) (c2 gAdd (c2 gSub (cV 3) (cV 2)) (cC (.int 1)))) (aCons (cV 2) (aCons (cV 3) aNil)))))

def F_may_all : Fn := body 2 2 (sRet (cC (.bl true)))

def F_write_of : Fn := body 3 3 (sRet (c2 gIx (c2 gIx (c1 (gFld 0 0) (cV 0)) (cV 1)) (c2 gSub (cV 2) (cV 1))))

def F_Solver_ahead_cost (r_Solver_own_cost : Fn) : Fn := body 5 4 (sSeq (sIf (tNot (tV (cMethV 1 1 (tabL [("may_all", F_may_all)]) 2 (cV 0) (aCons (cV 3) (aCons (cV 2) aNil))))) (sRet (cC .non)) sNil) (sSeq (sIf (tV (c2 gEq (cV 3) (cV 2))) (sRet (cCall0 (ifN 3 F_write_of) (aCons (c1 (gFld 1 0) (cV 0)) (aCons (cV 2) (aCons (cV 2) aNil))))) sNil) (sSeq (sAsg (gN 4) (cMethN 1 4 r_Solver_own_cost (cV 0) (aCons (cV 1) (aCons (cV 2) (aCons (c2 gSub (cV 3) (cC (.int 1))) aNil))))) (sRet (cIf (tV (c1 gIsN (cV 4))) (cC .non) (c2 gAdd (cV 4) (cCall0 (ifN 3 F_write_of) (aCons (c1 (gFld 1 0) (cV 0)) (aCons (cV 2) (aCons (cV 3) aNil))))))))))

def F_look_sum : Fn := body 4 4 (sRet (c1 gSum (cSl (c2 gIx (c1 (gFld 0 1) (cV 0)) (cV 1)) (oSome (c2 gSub (cV 2) (cV 1))) (oSome (c2 gAdd (c2 gSub (cV 3) (cV 1)) (cC (.int 1)))))))

def F_Solver_span_cost (r_Solver_own_cost : Fn) : Fn := body 5 4 (sSeq (sAsg (gN 4) (cMethN 1 4 r_Solver_own_cost (cV 0) (aCons (cV 1) (aCons (cV 2) (aCons (cV 3) aNil))))) (sRet (cIf (tV (c1 gIsN (cV 4))) (cC .non) (c2 gAdd (cV 4) (cCall0 (ifN 4 F_look_sum) (aCons (c1 (gFld 1 0) (cV 0)) (aCons (cV 2) (aCons (cV 2) (aCons (cV 3) aNil)))))))))

def F_Solver_behind_cost (r_Solver_own_cost : Fn) : Fn := body 4 4 (sSeq (sIf (tV (c2 gEq (cV 2) (cV 3))) (sRet (cC (.int 0))) sNil) (sRet (cIf (tV (c2 gGt (cV 1) (cC (.int 1)))) (cMethN 1 4 (F_Solver_span_cost r_Solver_own_cost) (cV 0) (aCons (c2 gSub (cV 1) (cC (.int 1))) (aCons (c2 gAdd (cV 2) (cC (.int 1))) (aCons (cV 3) aNil)))) (cC .non))))

def F_Solver_top_cost (r_Solver_own_cost : Fn) : Fn := body 7 5 (sSeq (sAsg (gN 5) (cMethN 1 4 (F_Solver_ahead_cost r_Solver_own_cost) (cV 0) (aCons (cV 1) (aCons (cV 2) (aCons (cV 4) aNil))))) (sSeq (sIf (tV (c1 gIsN (cV 5))) (sRet (cC .non)) sNil) (sSeq (sAsg (gN 6) (cMethN 1 4 (F_Solver_behind_cost r_Solver_own_cost) (cV 0) (aCons (cV 1) (aCons (cV 4) (aCons (cV 3) aNil))))) (sRet (cIf (tV (c1 gIsN (cV 6))) (cC .non) (c2 gAdd (cV 5) (cV 6)))))))

def F_Solver_own_cost : Nat → Fn
  | 0 => noF
  | n + 1 =>
    let r_Solver_own_cost := F_Solver_own_cost n
    body 8 4 (sSeq (sAsg (gN 4) (cMethN 1 4 F_Solver_capped (cV 0) (aCons (cV 1) (aCons (cV 2) (aCons (cV 3) aNil))))) (sSeq (sIf (tV (c2 gNotIn (cV 4) (c1 (gFld 1 2) (cV 0)))) (sSeq (sAsg (gN 5) (cComp [6] (iRng2 (cV 2) (c2 gAdd (cV 3) (cC (.int 1)))) (gN 6) tYes (cMethN 1 5 (F_Solver_top_cost r_Solver_own_cost) (cV 0) (aCons (c2 gIx (cV 4) (cC (.int 0))) (aCons (cV 2) (aCons (cV 3) (aCons (cV 6) aNil))))))) (sSeq (sAsg (gN 5) (cComp [7] (iSeq (cV 5)) (gN 7) (tV (c1 gNotN (cV 7))) (cV 7))) (sPut (rLoc (c1 (gFld 1 2) (cV 0))) (cV 4) (cIf (tV (c2 gGt (c1 gLen (cV 5)) (cC (.int 0)))) (c1 gMin (cV 5)) (cC .non))))) sNil) (sRet (c2 gIx (c1 (gFld 1 2) (cV 0)) (cV 4)))))

def F_Solver___init__ : Fn := body 3 3 (sSeq (sFld 1 0 (rLoc (cV 0)) (cV 1)) (sSeq (sFld 1 1 (rLoc (cV 0)) (cV 2)) (sSeq (sFld 1 2 (rLoc (cV 0)) (cNew cDT)) (sSeq (sFld 1 3 (rLoc (cV 0)) (cNew cDT)) (sFld 1 4 (rLoc (cV 0)) (cNew cDT))))))

def F_length_of : Fn := body 1 1 (sRet (c1 gLen (c1 (gFld 0 0) (cV 0))))

def F_least_cost : Fn := scp (body 2 2 (sRet (cMethN 1 4 (F_Solver_span_cost (F_Solver_own_cost 14)) (cMk 1 3 F_Solver___init__ (aCons (cV 0) (aCons (cC (.fn "may_all")) aNil))) (aCons (cV 1) (aCons (cC (.int 0)) (aCons (c2 gSub (cCall0 (ifN 1 F_length_of) (aCons (cV 0) aNil)) (cC (.int 1))) aNil))))))

def F_is_row : Fn := body 5 4 (sSeq (sIf (tOr (tNot (tV (c1 (gIsI "tuple") (cV 0)))) (tV (c2 gNe (c1 gLen (cV 0)) (cV 1)))) (sRet (cC (.bl false))) sNil) (sRet (c1 gAll (cComp [4] (iSeq (cV 0)) (gN 4) tYes (cCall0 (ifN 3 F_is_within) (aCons (cV 4) (aCons (cV 2) (aCons (cV 3) aNil))))))))

def F_first_wrong_row : Fn := body 5 3 (sSeq (sFor (iEnum (cV 0)) (gT [(gN 3), (gN 4)]) (sIf (tNot (tV (cCall0 (ifN 4 F_is_row) (aCons (cV 4) (aCons (c2 gSub (c1 gLen (cV 0)) (cV 3)) (aCons (cV 1) (aCons (cV 2) aNil))))))) (sRet (cV 3)) sNil)) (sRet (cC .non)))

def F_Task___init__ : Fn := body 4 3 (sSeq (sIf (tOr (tNot (tV (c1 (gIsI "tuple") (cV 1)))) (tNot (tV (cCh gLe gLe (cC (.int 1)) (c1 gLen (cV 1)) (cC (.int 30)))))) sNever sNil) (sSeq (sAsg (gN 3) (cCall0 (ifN 3 F_first_wrong_row) (aCons (cV 1) (aCons (cC (.int 0)) (aCons (cC (.int 1000000000)) aNil))))) (sSeq (sIf (tV (c1 gNotN (cV 3))) sNever sNil) (sSeq (sIf (tOr (tNot (tV (c1 (gIsI "tuple") (cV 2)))) (tV (c2 gNe (c1 gLen (cV 2)) (c1 gLen (cV 1))))) sNever sNil) (sSeq (sAsg (gN 3) (cCall0 (ifN 3 F_first_wrong_row) (aCons (cV 2) (aCons (cC (.int 0)) (aCons (cC (.int 1000000000)) aNil))))) (sSeq (sIf (tV (c1 gNotN (cV 3))) sNever sNil) (sSeq (sFld 0 0 (rLoc (cV 0)) (cV 1)) (sFld 0 1 (rLoc (cV 0)) (cV 2)))))))))

def F_raw_task : Fn := body 3 2 (sSeq (sOwn 2 (cMkN 0 3 F_Task___init__ (aCons (cTup (aCons (cTup (aCons (cC (.int 0)) aNil)) aNil)) (aCons (cTup (aCons (cTup (aCons (cC (.int 0)) aNil)) aNil)) aNil)))) (sSeq (sFld 0 0 (rOwn 2) (c1 gTuple (cV 0))) (sSeq (sFld 0 1 (rOwn 2) (c1 gTuple (cV 1))) (sSeq (sFrz 2) (sRet (cV 2))))))

def F_sized_task : Fn := body 6 2 (sSeq (sAsg (gN 2) (c1 gLen (cV 0))) (sSeq (sAsg (gN 3) (cComp [4] (iRng (cV 2)) (gN 4) tYes (c1 gTuple (cComp [5] (iRng2 (cV 4) (cV 2)) (gN 5) tYes (c1 gSum (cSl (cV 0) (oSome (cV 4)) (oSome (c2 gAdd (cV 5) (cC (.int 1)))))))))) (sRet (cCall0 (ifN 2 F_raw_task) (aCons (cV 3) (aCons (cComp [4] (iRng (cV 2)) (gN 4) tYes (c2 gMul (cTup (aCons (cV 1) aNil)) (c2 gSub (cV 2) (cV 4)))) aNil))))))

def F_least_there : Fn := body 2 2 (sRet (cCall0 (ifN 2 F_least_cost) (aCons (cCall0 (ifN 2 F_sized_task) (aCons (cV 0) (aCons (cC (.int 0)) aNil))) (aCons (cV 1) aNil))))

def F_Game___init__ : Fn := body 5 4 (sSeq (sFld 3 0 (rLoc (cV 0)) (cV 1)) (sSeq (sFld 3 1 (rLoc (cV 0)) (cV 2)) (sSeq (sFld 3 2 (rLoc (cV 0)) (cLRg2 (cC (.int 1)) (c2 gAdd (cV 3) (cC (.int 1))))) (sFld 3 3 (rLoc (cV 0)) (cDCompT [4] (iSeq (cCall0 (ifN 2 F_rows_of) (aCons (cV 2) (aCons (cV 3) aNil)))) (gN 4) tYes (cV 4) (cCall0 (ifN 2 F_least_there) (aCons (cV 4) (aCons (cV 1) aNil))))))))

def F_begin : Fn := body 0 0 (sRet (cMkN 2 5 F_Spot___init__ (aCons (cTup aNil) (aCons (cTup aNil) (aCons (cTup aNil) (aCons (cC (.int 0)) aNil))))))

def F_keepers_book : Fn := body 5 4 (sSeq (sExpr (cCall0 (ifN 4 F_check_ratio_game) (aCons (cV 0) (aCons (cV 1) (aCons (cV 2) (aCons (cV 3) aNil)))))) (sSeq (sAsg (gN 4) (cNew cDT)) (sRet (cIf (tV (cMethN 3 4 (F_Game_keeper_holds 8) (cMkN 3 4 F_Game___init__ (aCons (cV 0) (aCons (cV 1) (aCons (cV 2) aNil)))) (aCons (cCall0 (ifN 0 F_begin) aNil) (aCons (cV 3) (aCons (cV 4) aNil))))) (cV 4) (cC .non)))))

def F_Game_foe_goes : Nat → Fn
  | 0 => noF
  | n + 1 =>
    let r_Game_foe_goes := F_Game_foe_goes n
    body 8 4 (sSeq (sIf (tV (cMethN 3 3 F_Game_is_above (cV 0) (aCons (cV 1) (aCons (cV 2) aNil)))) (sSeq (sPut (rLoc (cV 3)) (c1 (gFld 2 1) (cV 1)) (cC (.int 0))) sRetN) sNil) (sFor (iSeq (c1 (gFld 3 2) (cV 0))) (gN 4) (sSeq (sAsg (gN 5) (cComp [7] (iSeq (cMethN 3 2 F_Game_answers_at (cV 0) (aCons (cV 1) aNil))) (gN 7) tYes (cMethN 2 3 F_Spot_behind (cV 1) (aCons (cV 4) (aCons (cV 7) aNil))))) (sIf (tAnd (tV (c2 gLt (c1 gLen (c1 (gFld 2 0) (cV 1))) (c1 (gFld 3 1) (cV 0)))) (tNot (tV (c1 gAny (cComp [6] (iSeq (cV 5)) (gN 6) tYes (cMethN 3 3 F_Game_holds (cV 0) (aCons (cV 6) (aCons (cV 2) aNil)))))))) (sSeq (sPut (rLoc (cV 3)) (c1 (gFld 2 1) (cV 1)) (cV 4)) (sSeq (sFor (iSeq (cV 5)) (gN 6) (sExpr (cMethN 3 4 r_Game_foe_goes (cV 0) (aCons (cV 6) (aCons (cV 2) (aCons (cV 3) aNil)))))) sRetN)) sNil))))

def F_foes_book : Fn := body 6 4 (sSeq (sExpr (cCall0 (ifN 4 F_check_ratio_game) (aCons (cV 0) (aCons (cV 1) (aCons (cV 2) (aCons (cV 3) aNil)))))) (sSeq (sAsg (gN 4) (cMkN 3 4 F_Game___init__ (aCons (cV 0) (aCons (cV 1) (aCons (cV 2) aNil))))) (sSeq (sIf (tV (cMethN 3 3 F_Game_holds (cV 4) (aCons (cCall0 (ifN 0 F_begin) aNil) (aCons (cV 3) aNil)))) (sRet (cC .non)) sNil) (sSeq (sAsg (gN 5) (cNew cDT)) (sSeq (sExpr (cMethN 3 4 (F_Game_foe_goes 8) (cV 4) (aCons (cCall0 (ifN 0 F_begin) aNil) (aCons (cV 3) (aCons (cV 5) aNil))))) (sRet (cV 5)))))))

def F__law_whole : Fn := body 3 3 (sRet (cAnd (c1 (gIsI "int") (cV 0)) (cAnd (cNot (c1 (gIsI "bool") (cV 0))) (cCh gLe gLe (cV 1) (cV 0) (cV 2)))))

def F__law_is_foes : Fn := body 13 3 (sSeq (sIf (tNot (tV (cIsDT (cV 2)))) (sRet (cC (.bl false))) sNil) (sSeq (sOwn 3 (cLst (aCons (cTup (aCons (cTup aNil) (aCons (cTup aNil) (aCons (cTup aNil) (aCons (cC (.int 0)) aNil))))) aNil))) (sSeq (sAsg (gN 4) (cC (.int 0))) (sSeq (whileN (tV (c2 gGt (c1 gLen (oV 3)) (cC (.int 0)))) (sSeq (sPop (gT [(gN 6), (gN 7), (gN 8), (gN 9)]) (rOwn 3)) (sSeq (sAsg (gN 4) (c2 gAdd (cV 4) (cC (.int 1)))) (sSeq (sIf (tOr (tV (c2 gNotIn (cV 6) (cV 2))) (tNot (tV (cCall0 (ifN 3 F__law_whole) (aCons (c2 gIx (cV 2) (cV 6)) (aCons (cC (.int 0)) (aCons (c2 gIx (cV 0) (cC (.int 2))) aNil))))))) (sRet (cC (.bl false))) sNil) (sSeq (sAsg (gN 5) (c2 gIx (cV 2) (cV 6))) (sIf (tV (c2 gEq (cV 5) (cC (.int 0)))) (sIf (tOr (tV (c2 gEq (cV 7) (cTup aNil))) (tV (c2 gLe (c2 gMul (cV 9) (c2 gIx (cV 1) (cC (.int 1)))) (c2 gMul (c2 gIx (cV 1) (cC (.int 0))) (cCall0 (ifN 2 F__law_due) (aCons (cV 0) (aCons (cV 7) aNil))))))) (sRet (cC (.bl false))) sNil) (sIf (tV (c2 gEq (c1 gLen (cV 7)) (c2 gIx (cV 0) (cC (.int 1))))) (sRet (cC (.bl false))) (sFor (iRng (c2 gAdd (c2 gMin2 (c1 gLen (cV 8)) (c2 gSub (c2 gIx (cV 0) (cC (.int 0))) (cC (.int 1)))) (cC (.int 1)))) (gN 10) (sSeq (sAsg (gN 11) (cIf (tV (c2 gLt (cV 10) (c1 gLen (cV 8)))) (c2 gIx (cV 8) (cV 10)) (c1 gLen (cV 7)))) (sSeq (sAsg (gN 12) (c2 gAdd (c2 gAdd (cV 9) (c1 gSum (cSl (cV 7) (oSome (cV 11)) oNone))) (cV 5))) (sApp (rOwn 3) (cTup (aCons (c2 gAdd (cV 6) (cTup (aCons (cV 10) aNil))) (aCons (c2 gAdd (cV 7) (cTup (aCons (cV 5) aNil))) (aCons (c2 gAdd (cSl (cV 8) oNone (oSome (cV 10))) (cTup (aCons (cV 11) aNil))) (aCons (cV 12) aNil))))))))))))))) 20000) (sRet (c2 gEq (cV 4) (cLenT (cV 2))))))))

def F_is_foes_word : Fn := body 4 4 (sSeq (sIf (tNot (tV (cCall0 (ifN 3 F_is_within) (aCons (cV 3) (aCons (cC (.int 0)) (aCons (c2 gIx (c1 (gFld 3 2) (cV 0)) (c1 gNeg (cC (.int 1)))) aNil)))))) (sRet (cC (.bl false))) sNil) (sRet (cIf (tV (c2 gEq (cV 3) (cC (.int 0)))) (cMethN 3 3 F_Game_is_above (cV 0) (aCons (cV 1) (aCons (cV 2) aNil))) (c2 gLt (c1 gLen (c1 (gFld 2 0) (cV 1))) (c1 (gFld 3 1) (cV 0))))))

def F_is_foes_book : Fn := body 11 5 (sSeq (sExpr (cCall0 (ifN 4 F_check_ratio_game) (aCons (cV 0) (aCons (cV 1) (aCons (cV 2) (aCons (cV 3) aNil)))))) (sSeq (sIf (tNot (tV (cIsDT (cV 4)))) (sRet (cC (.bl false))) sNil) (sSeq (sAsg (gN 5) (cMkN 3 4 F_Game___init__ (aCons (cV 0) (aCons (cV 1) (aCons (cV 2) aNil))))) (sSeq (sAsg (gN 6) (cC (.int 0))) (sSeq (sOwn 7 (cLst (aCons (cCall0 (ifN 0 F_begin) aNil) aNil))) (sSeq (whileN (tV (c2 gGt (c1 gLen (oV 7)) (cC (.int 0)))) (sSeq (sPop (gN 8) (rOwn 7)) (sSeq (sAsg (gN 9) (cGet (cV 4) (c1 (gFld 2 1) (cV 8)))) (sSeq (sIf (tNot (tV (cCall0 (ifN 4 F_is_foes_word) (aCons (cV 5) (aCons (cV 8) (aCons (cV 3) (aCons (cV 9) aNil))))))) (sRet (cC (.bl false))) sNil) (sSeq (sAug 6 jAdd (cC (.int 1))) (sIf (tV (c2 gGt (cV 9) (cC (.int 0)))) (sExt (rOwn 7) (cComp [10] (iSeq (cMethN 3 2 F_Game_answers_at (cV 5) (aCons (cV 8) aNil))) (gN 10) tYes (cMethN 2 3 F_Spot_behind (cV 8) (aCons (cV 9) (aCons (cV 10) aNil))))) sNil))))) 20000) (sRet (c2 gEq (cV 6) (cLenT (cV 4))))))))))

def F_many_rows : Fn := body 5 2 (sSeq (sAsg (gN 2) (cC (.int 0))) (sSeq (sAsg (gN 3) (cC (.int 1))) (sSeq (sFor (iRng (cV 0)) (gN 4) (sSeq (sAug 3 jMul (cV 1)) (sAug 2 jAdd (cV 3)))) (sRet (cV 2)))))

def F_may_stay : Fn := body 3 3 (sRet (cCall0 (ifN 3 F_is_within) (aCons (cV 2) (aCons (cC (.int 0)) (aCons (c2 gMin2 (c1 gLen (cV 0)) (c2 gSub (cV 1) (cC (.int 1)))) aNil)))))

def F_is_keepers_book : Fn := body 9 5 (sSeq (sExpr (cCall0 (ifN 4 F_check_ratio_game) (aCons (cV 0) (aCons (cV 1) (aCons (cV 2) (aCons (cV 3) aNil)))))) (sSeq (sIf (tOr (tNot (tV (cIsDT (cV 4)))) (tV (c2 gNe (cLenT (cV 4)) (cCall0 (ifN 2 F_many_rows) (aCons (cV 1) (aCons (cV 2) aNil)))))) (sRet (cC (.bl false))) sNil) (sSeq (sAsg (gN 5) (cMkN 3 4 F_Game___init__ (aCons (cV 0) (aCons (cV 1) (aCons (cV 2) aNil))))) (sSeq (sOwn 6 (cDT1 (cTup aNil) (cCall0 (ifN 0 F_begin) aNil))) (sSeq (sFor (iSeq (cCall0 (ifN 2 F_rows_of) (aCons (cV 1) (aCons (cV 2) aNil)))) (gN 7) (sSeq (sAsg (gN 8) (c2 gIx (oV 6) (cSl (cV 7) oNone (oSome (c1 gNeg (cC (.int 1))))))) (sSeq (sIf (tOr (tV (c2 gNotIn (cV 7) (cV 4))) (tNot (tV (cCall0 (ifN 3 F_may_stay) (aCons (c1 (gFld 2 2) (cV 8)) (aCons (cV 0) (aCons (c2 gIx (cV 4) (cV 7)) aNil))))))) (sRet (cC (.bl false))) sNil) (sSeq (sPut (rOwn 6) (cV 7) (cMethN 2 3 F_Spot_behind (cV 8) (aCons (c2 gIx (cV 7) (c1 gNeg (cC (.int 1)))) (aCons (c2 gIx (cV 4) (cV 7)) aNil)))) (sIf (tV (cMethN 3 3 F_Game_is_above (cV 5) (aCons (c2 gIx (oV 6) (cV 7)) (aCons (cV 3) aNil)))) (sRet (cC (.bl false))) sNil))))) (sRet (cC (.bl true))))))))

def F__law_rows : Fn := body 8 2 (sSeq (sOwn 2 (cLst aNil)) (sSeq (sAsg (gN 3) (cLst (aCons (cTup aNil) aNil))) (sSeq (sFor (iRng (cV 0)) (gN 4) (sSeq (sOwn 5 (cLst aNil)) (sSeq (sFor (iSeq (cV 3)) (gN 6) (sExt (rOwn 5) (cComp [7] (iRng2 (cC (.int 1)) (c2 gAdd (cV 1) (cC (.int 1)))) (gN 7) tYes (c2 gAdd (cV 6) (cTup (aCons (cV 7) aNil)))))) (sSeq (sFrz 5) (sSeq (sAsg (gN 3) (cV 5)) (sExt (rOwn 2) (cV 3))))))) (sSeq (sFrz 2) (sRet (cV 2))))))

def F__law_is_keepers : Fn := body 10 3 (sSeq (sAsg (gN 3) (cCall0 (ifN 2 F__law_rows) (aCons (c2 gIx (cV 0) (cC (.int 1))) (aCons (c2 gIx (cV 0) (cC (.int 2))) aNil)))) (sSeq (sIf (tOr (tNot (tV (cIsDT (cV 2)))) (tOr (tV (c2 gNe (cLenT (cV 2)) (c1 gLen (cV 3)))) (tNot (tV (c1 gAll (cComp [5] (iSeq (cV 3)) (gN 5) tYes (c2 gIn (cV 5) (cV 2)))))))) (sRet (cC (.bl false))) sNil) (sSeq (sOwn 4 (cDT1 (cTup aNil) (cTup (aCons (cTup aNil) (aCons (cC (.int 0)) aNil))))) (sSeq (sFor (iSeq (cV 3)) (gN 5) (sSeq (sAsg (gT [(gN 9), (gN 8)]) (c2 gIx (oV 4) (cSl (cV 5) oNone (oSome (c1 gNeg (cC (.int 1))))))) (sSeq (sAsg (gN 6) (c2 gIx (cV 2) (cV 5))) (sSeq (sIf (tNot (tV (cCall0 (ifN 3 F__law_whole) (aCons (cV 6) (aCons (cC (.int 0)) (aCons (c2 gMin2 (c1 gLen (cV 9)) (c2 gSub (c2 gIx (cV 0) (cC (.int 0))) (cC (.int 1)))) aNil)))))) (sRet (cC (.bl false))) sNil) (sSeq (sAsg (gN 7) (cIf (tV (c2 gLt (cV 6) (c1 gLen (cV 9)))) (c2 gIx (cV 9) (cV 6)) (c2 gSub (c1 gLen (cV 5)) (cC (.int 1))))) (sSeq (sAsg (gN 8) (c2 gAdd (cV 8) (c1 gSum (cSl (cV 5) (oSome (cV 7)) oNone)))) (sSeq (sIf (tV (c2 gGt (c2 gMul (cV 8) (c2 gIx (cV 1) (cC (.int 1)))) (c2 gMul (c2 gIx (cV 1) (cC (.int 0))) (cCall0 (ifN 2 F__law_due) (aCons (cV 0) (aCons (cV 5) aNil)))))) (sRet (cC (.bl false))) sNil) (sPut (rOwn 4) (cV 5) (cTup (aCons (c2 gAdd (cSl (cV 9) oNone (oSome (cV 6))) (cTup (aCons (cV 7) aNil))) (aCons (cV 8) aNil))))))))))) (sRet (cC (.bl true)))))))

def F__law_right : Fn := body 9 3 (sSeq (sAsg (gTL [(gN 5), (gN 6), (gN 7), (gN 8)]) (cV 0)) (sSeq (sAsg (gN 3) (cCall0 (ifN 4 F_keepers_book) (aCons (cV 5) (aCons (cV 6) (aCons (cV 7) (aCons (cV 1) aNil)))))) (sSeq (sAsg (gN 4) (cCall0 (ifN 4 F_foes_book) (aCons (cV 5) (aCons (cV 6) (aCons (cV 7) (aCons (cV 1) aNil)))))) (sSeq (sIf (tV (cCall0 (ifN 2 F__law_more) (aCons (cV 2) (aCons (cV 1) aNil)))) (sSeq (sIf (tOr (tV (c1 gNotN (cV 3))) (tNot (tV (cCall0 (ifN 3 F__law_is_foes) (aCons (cV 0) (aCons (cV 1) (aCons (cV 4) aNil))))))) (sRet (cC (.bl false))) sNil) (sSeq (sIf (tV (c2 gNotB (cCall0 (ifN 5 F_is_foes_book) (aCons (cV 5) (aCons (cV 6) (aCons (cV 7) (aCons (cV 1) (aCons (cV 4) aNil)))))) (cC (.bl true)))) (sRet (cC (.bl false))) sNil) (sSeq (sIf (tV (c2 gNotB (cCall0 (ifN 5 F_is_keepers_book) (aCons (cV 5) (aCons (cV 6) (aCons (cV 7) (aCons (cV 1) (aCons (cV 4) aNil)))))) (cC (.bl false)))) (sRet (cC (.bl false))) sNil) (sSeq (sClr (rLoc (cV 4))) (sRet (cCall0 (ifN 3 F__law_is_foes) (aCons (cV 0) (aCons (cV 1) (aCons (cCall0 (ifN 4 F_foes_book) (aCons (cV 5) (aCons (cV 6) (aCons (cV 7) (aCons (cV 1) aNil))))) aNil))))))))) sNil) (sSeq (sIf (tOr (tV (c1 gNotN (cV 4))) (tNot (tV (cCall0 (ifN 3 F__law_is_keepers) (aCons (cV 0) (aCons (cV 1) (aCons (cV 3) aNil))))))) (sRet (cC (.bl false))) sNil) (sSeq (sIf (tV (c2 gNotB (cCall0 (ifN 5 F_is_keepers_book) (aCons (cV 5) (aCons (cV 6) (aCons (cV 7) (aCons (cV 1) (aCons (cV 3) aNil)))))) (cC (.bl true)))) (sRet (cC (.bl false))) sNil) (sSeq (sIf (tV (c2 gNotB (cCall0 (ifN 5 F_is_foes_book) (aCons (cV 5) (aCons (cV 6) (aCons (cV 7) (aCons (cV 1) (aCons (cV 3) aNil)))))) (cC (.bl false)))) (sRet (cC (.bl false))) sNil) (sSeq (sClr (rLoc (cV 3))) (sRet (cCall0 (ifN 3 F__law_is_keepers) (aCons (cV 0) (aCons (cV 1) (aCons (cCall0 (ifN 4 F_keepers_book) (aCons (cV 5) (aCons (cV 6) (aCons (cV 7) (aCons (cV 1) aNil))))) aNil)))))))))))))

def F__law_ratio : Fn := body 4 2 (sSeq (sAsg (gN 2) (c2 gAdd (cC (.int 1)) (cCall0 (ifN 2 F__law_draw) (aCons (cV 0) (aCons (cC (.int 50)) aNil))))) (sSeq (sOwn 3 (cLst (aCons (cV 1) (aCons (cV 1) (aCons (cTup (aCons (c2 gSub (c2 gMul (c2 gIx (cV 1) (cC (.int 0))) (cV 2)) (cC (.int 1))) (aCons (c2 gMul (c2 gIx (cV 1) (cC (.int 1))) (cV 2)) aNil))) (aCons (cTup (aCons (c2 gAdd (c2 gMul (c2 gIx (cV 1) (cC (.int 0))) (cV 2)) (cC (.int 1))) (aCons (c2 gMul (c2 gIx (cV 1) (cC (.int 1))) (cV 2)) aNil))) (aCons (cTup (aCons (cC (.int 0)) (aCons (cC (.int 1)) aNil))) (aCons (cTup (aCons (cC (.int 1)) (aCons (cC (.int 1)) aNil))) (aCons (cTup (aCons (cC (.int 4)) (aCons (cC (.int 1)) aNil))) aNil))))))))) (sSeq (sApp (rOwn 3) (cTup (aCons (c2 gAdd (cC (.int 1)) (cCall0 (ifN 2 F__law_draw) (aCons (cV 0) (aCons (cC (.int 30)) aNil)))) (aCons (c2 gAdd (cC (.int 1)) (cCall0 (ifN 2 F__law_draw) (aCons (cV 0) (aCons (cC (.int 20)) aNil)))) aNil)))) (sRet (cCall0 (ifN 1 F__law_lowest) (aCons (c2 gIx (c2 gAdd (oV 3) (cLst (aCons (cTup (aCons (c2 gPow (cC (.int 10)) (cC (.int 30))) (aCons (cC (.int 7)) aNil))) aNil))) (cCall0 (ifN 2 F__law_draw) (aCons (cV 0) (aCons (cC (.int 9)) aNil)))) aNil))))))

def F_law : Fn := body 5 1 (sSeq (sAsg (gN 1) (cCall0 (ifN 1 F__law_hand) (aCons (cV 0) aNil))) (sSeq (sAsg (gN 2) (cCall0 (ifN 1 F__law_game) (aCons (cV 1) aNil))) (sSeq (sAsg (gN 3) (cCall0 (ifN 1 F__law_surest) (aCons (cV 2) aNil))) (sSeq (sFor (iRng (cIf (tV (c2 gLt (c2 gMul (c2 gIx (cV 2) (cC (.int 1))) (c2 gIx (cV 2) (cC (.int 2)))) (cC (.int 10)))) (cC (.int 3)) (cC (.int 1)))) (gN 4) (sIf (tNot (tV (cCall0 (ifN 3 F__law_right) (aCons (cV 2) (aCons (cCall0 (ifN 2 F__law_ratio) (aCons (cV 1) (aCons (cV 3) aNil))) (aCons (cV 3) aNil)))))) (sRet (cC (.bl false))) sNil)) (sRet (cC (.bl true)))))))

end K82
namespace K82
open PySem J

/-! ## the draw -/
def hd (cells : List Int) (p : Nat) (b c d : Int) : Cell := .lst [.lst (dI cells), .int p, .int b, .int c, .int d]
@[simp] theorem pow18 : gPow (.int 10) (.int 18) = some (.int 1000000000000000000) := by rfl
@[simp] theorem pow6 : gPow (.int 10) (.int 6) = some (.int 1000000) := by rfl
theorem ixN_nat (n p : Nat) (h : p < n) : ixN n (p : Int) = some p := by
  unfold ixN
  rw [if_pos (by omega), if_pos (by omega)]
  simp
def rn1 (c d : Int) : Int := (c + 7919 * d) * 48271 % 2147483647
def rn2 (c d : Int) : Int := rn1 c d * (rn1 c d / 1009 + 69621) % 2147483647
def rn3 (c d : Int) : Int := rn2 c d * (rn2 c d / 2003 + 40692) % 2147483399
theorem small_mod (a b : Int) (h : 0 < b) (h2 : b ≤ 18446744073709551616) : small64 (a % b) = true := by
  have h1 := Int.emod_nonneg a (by omega : b ≠ 0)
  have h3 := Int.emod_lt_of_pos a h
  unfold small64
  simp
  omega
theorem rn1_small (c d : Int) : small64 (rn1 c d) = true := small_mod _ _ (by decide) (by decide)
theorem rn2_small (c d : Int) : small64 (rn2 c d) = true := small_mod _ _ (by decide) (by decide)
theorem gm1 (c d : Int) : gMul (.int (c + 7919 * d)) (.int 48271) = some (.int ((c + 7919 * d) * 48271)) := gMul_int _ _ (.inr (by decide))
theorem mod1 (c d : Int) : gMod (.int ((c + 7919 * d) * 48271)) (.int 2147483647) = some (.int (rn1 c d)) := gMod_int _ _ (by decide)
theorem mod2 (c d : Int) : gMod (.int (rn1 c d * (rn1 c d / 1009 + 69621))) (.int 2147483647) = some (.int (rn2 c d)) := gMod_int _ _ (by decide)
theorem mod3 (c d : Int) : gMod (.int (rn2 c d * (rn2 c d / 2003 + 40692))) (.int 2147483399) = some (.int (rn3 c d)) := gMod_int _ _ (by decide)
theorem gm2 (c d x : Int) : gMul (.int (rn1 c d)) (.int x) = some (.int (rn1 c d * x)) := gMul_int _ _ (.inl (rn1_small c d))
theorem gm3 (c d x : Int) : gMul (.int (rn2 c d)) (.int x) = some (.int (rn2 c d * x)) := gMul_int _ _ (.inl (rn2_small c d))
theorem gm0 (d : Int) : gMul (.int 7919) (.int d) = some (.int (7919 * d)) := gMul_int _ _ (.inl (by decide))
theorem gm4 (c : Int) : gMul (.int c) (.int 69621) = some (.int (c * 69621)) := gMul_int _ _ (.inr (by decide))
theorem gd (a b : Int) (h : 0 < b) (h2 : b < 1073741824) : gDiv (.int a) (.int b) = some (.int (a / b)) := gDiv_int a b h h2
theorem gd1 (a : Int) : gDiv (.int a) (.int 1009) = some (.int (a / 1009)) := gDiv_int _ _ (by decide) (by decide)
theorem gd2 (a : Int) : gDiv (.int a) (.int 2003) = some (.int (a / 2003)) := gDiv_int _ _ (by decide) (by decide)
theorem gd3 (a : Int) : gDiv (.int a) (.int 16) = some (.int (a / 16)) := gDiv_int _ _ (by decide) (by decide)
theorem gmo (a : Int) : gMod (.int a) (.int 2147483629) = some (.int (a % 2147483629)) := gMod_int _ _ (by decide)
/-- no new cell is taken, a random number -/
theorem e_draw2 (T : Mem) (cells : List Int) (p : Nat) (c d m : Int) (hm : 0 < m) (h2 : ¬ (p : Int) < cells.length) : F__law_draw [.loc 0, .int m] (hd cells p 0 c d :: T) = .ok (.int (rn3 c (d + 1) / 16 % m)) (hd cells p 0 c (d + 1) :: T) := by
  simp [F__law_draw, hd, view, ixN, h2, gm0, gm1, mod1, gd1, gm2, mod2, gd2, gm3, mod3, gd3, gMod_int _ _ hm]
theorem e_draw3 (T : Mem) (cells : List Int) (p : Nat) (b c d m : Int) (hm : 0 < m) (hm2 : m < 1073741824) (hb : 0 < b) : F__law_draw [.loc 0, .int m] (hd cells p b c d :: T) = .ok (.int (b % m)) (hd cells p (b / m) c d :: T) := by
  have hb2 : ¬ b = 0 := by omega
  simp [F__law_draw, hd, view, ixN, hb, hb2, gMod_int _ _ hm, gDiv_int _ _ hm hm2]
@[simp] theorem ix50 : ixN 5 0 = some 0 := rfl
@[simp] theorem ix51 : ixN 5 1 = some 1 := rfl
@[simp] theorem ix52 : ixN 5 2 = some 2 := rfl
@[simp] theorem ix53 : ixN 5 3 = some 3 := rfl
@[simp] theorem ix54 : ixN 5 4 = some 4 := rfl
theorem e_draw1 (T : Mem) (cells : List Int) (p : Nat) (c d m x : Int) (hm : 0 < m) (hm2 : m < 1073741824) (h2 : (p : Int) < cells.length) (hx : cells[p]? = some x) :
    (1000000000000000000 ≤ x → F__law_draw [.loc 0, .int m] (hd cells p 0 c d :: T) = .ok (.int (x % m)) (hd cells (p + 1) (x / m) ((c * 69621 + x + 11) % 2147483629) d :: T)) ∧
    (¬ 1000000000000000000 ≤ x → F__law_draw [.loc 0, .int m] (hd cells p 0 c d :: T) = .ok (.int (rn3 ((c * 69621 + x + 11) % 2147483629) (d + 1) / 16 % m)) (hd cells (p + 1) 0 ((c * 69621 + x + 11) % 2147483629) (d + 1) :: T)) := by
  have hp : p < cells.length := by omega
  have hp2 := ixN_nat _ _ hp
  constructor
  · intro h
    have hb : 0 < x := by omega
    have hb2 : ¬ x = 0 := by omega
    simp [F__law_draw, hd, view, h2, hm, gmo, gm4, h, hb, hb2, gMod_int _ _ hm, gDiv_int _ _ hm hm2, hp2, hx]
  · intro h
    simp [F__law_draw, hd, view, h2, gm0, gm1, mod1, gd1, gm2, mod2, gd2, gm3, mod3, gd3, gMod_int _ _ hm, gmo, gm4, h, hp2, hx]
/-- the hand -/
def Hand (T M : Mem) : Prop := ∃ cells p b c d, 0 ≤ b ∧ M = hd cells p b c d :: T
theorem e_draw {T : Mem} (M : Mem) (m : Int) (hM : Hand T M) (hm : 0 < m) (hm2 : m < 1073741824) : ∃ r M', F__law_draw [.loc 0, .int m] M = .ok (.int r) M' ∧ Hand T M' ∧ 0 ≤ r ∧ r < m := by
  obtain ⟨cells, p, b, c, d, hb, rfl⟩ := hM
  have md : ∀ a : Int, 0 ≤ a % m ∧ a % m < m := fun a => ⟨Int.emod_nonneg _ (by omega), Int.emod_lt_of_pos _ hm⟩
  by_cases h0 : b = 0
  · subst h0
    by_cases h2 : (p : Int) < cells.length
    · obtain ⟨x, hx⟩ : ∃ x, cells[p]? = some x := ⟨cells[p]'(by omega), List.getElem?_eq_getElem (by omega)⟩
      obtain ⟨e1, e2⟩ := e_draw1 T cells p c d m x hm hm2 h2 hx
      by_cases h3 : 1000000000000000000 ≤ x
      · exact ⟨_, _, e1 h3, ⟨_, _, _, _, _, Int.ediv_nonneg (by omega) (by omega), rfl⟩, (md _).1, (md _).2⟩
      · exact ⟨_, _, e2 h3, ⟨_, _, _, _, _, Int.le_refl _, rfl⟩, (md _).1, (md _).2⟩
    · exact ⟨_, _, e_draw2 T cells p c d m hm h2, ⟨_, _, _, _, _, Int.le_refl _, rfl⟩, (md _).1, (md _).2⟩
  · exact ⟨_, _, e_draw3 T cells p b c d m hm hm2 (by omega), ⟨_, _, _, _, _, Int.ediv_nonneg hb (by omega), rfl⟩, (md _).1, (md _).2⟩

theorem e_hand (ns : List Int) : ∃ M, F__law_hand [.scr (ns.map .int)] [] = .ok (.loc 0) M ∧ Hand [] M := by
  have h := compL_map (vs := [2]) (g := gN 2) (f := c1 gAbs (c1 gInt (cV 2))) (E := [.sh (.scr (ns.map .int)), .un, .un]) (M := []) D.int (fun i => D.int (if i < 0 then -i else i)) (ns.take 63) fun x _ => ⟨_, rfl, by simp [wipe]⟩
  have e : (ns.take 63).map D.int = cutD (ns.map D.int) none (some 63) := by
    have := cutD_hi (ds := ns.map D.int) (b := 63)
    rw [List.map_take]
    exact this.symm
  have e2 : ∀ xs : List Int, xs.map (fun i => D.int (if i < 0 then -i else i)) = dI (xs.map fun i => if i < 0 then -i else i) := fun xs => by simp [dI]
  refine ⟨[hd ((ns.take 63).map fun i => if i < 0 then -i else i) 0 0 (1 + ((ns.take 63).length : Int)) 0], ?_, ⟨_, _, _, _, _, Int.le_refl _, rfl⟩⟩
  rw [e, e2] at h
  simp [F__law_hand, h, hd, sizeMax]

/-! ## rows of sizes -/
def Sz (sz : List Int) : Prop := 1 ≤ sz.length ∧ sz.length ≤ 12 ∧ ∀ s ∈ sz, 1 ≤ s ∧ s ≤ 1000000
end K82
namespace K82
open PySem J PM

def taskD (sz : List Int) : D := .obj 0 [.tup ((List.range sz.length).map fun i => D.tup ((List.range (sz.length - i)).map fun j => D.int (S sz i (i + j)))), .tup ((List.range sz.length).map fun i => D.tup ((List.replicate (sz.length - i) (0 : Int)).map D.int))]
theorem ixN_of {n : Nat} {i : Int} {k : Nat} (h : i = k) (hk : k < n) : ixN n i = some k := by rw [h]; exact ixN_nat n k hk
theorem e_write_of (sz : List Int) (f l : Nat) (M : Mem) (h1 : f ≤ l) (h2 : l < sz.length) : F_write_of [taskD sz, .int f, .int l] M = .ok (.int (S sz f l)) M := by
  have a1 : ixN sz.length (f : Int) = some f := ixN_nat _ _ (by omega)
  have a2 : ixN (sz.length - f) ((l : Int) - (f : Int)) = some (l - f) := ixN_of (by omega) (by omega)
  have hf : f < sz.length := by omega
  have hl : l - f < sz.length - f := by omega
  simp [F_write_of, taskD, a1, hf, a2, hl, show f + (l - f) = l by omega]
theorem e_look_sum (sz : List Int) (f l : Nat) (M : Mem) (h1 : f ≤ l) (h2 : l < sz.length) : F_look_sum [taskD sz, .int f, .int f, .int l] M = .ok (.int 0) M := by
  have a1 : ixN sz.length (f : Int) = some f := ixN_nat _ _ (by omega)
  have hf : f < sz.length := by omega
  have e1 : ((f : Int) - (f : Int)) = ((0 : Nat) : Int) := by omega
  have e2 : ((l : Int) - (f : Int) + 1) = ((l - f + 1 : Nat) : Int) := by omega
  have e3 : cutD (List.replicate (sz.length - f) (D.int 0)) (some ((0 : Nat) : Int)) (some ((l - f + 1 : Nat) : Int)) = (List.replicate (l - f + 1) (0 : Int)).map D.int := by
    rw [cutD_both]
    simp
    omega
  have e4 : (List.replicate (l - f + 1) (0 : Int)).sum = 0 := by
    induction (l - f + 1) with
    | zero => rfl
    | succ n ih => rw [List.replicate_succ, List.sum_cons, ih]; rfl
  have e5 : gSum (.tup (cutD (List.replicate (sz.length - f) (D.int 0)) (some 0) (some (((l - f : Nat) : Int) + 1)))) = some (.int 0) := by
    have e6 : some (((l - f : Nat) : Int) + 1) = some ((l - f + 1 : Nat) : Int) := by congr 1
    rw [e6, show (some (0 : Int)) = some ((0 : Nat) : Int) from rfl, e3, gSum_tup, e4]
  simp [F_look_sum, taskD, a1, hf, e1, e2, e5]

/-! ## the solver's cells -/
abbrev key3 (k f l : Nat) : List Key := [.inl (k : Int), .inl (f : Int), .inl (l : Int)]
def SM (l : Nat) (sz : List Int) (cs : List (List Key × D)) : Mem := [.ins 1 [taskD sz, .fn "may_all", .loc (l + 1), .loc (l + 2), .loc (l + 3)], .dT cs, .dT [], .dT []]
def MemoOk (sz : List Int) (cs : List (List Key × D)) : Prop := (∀ p ∈ cs, ∃ k f l v, p = (key3 k f l, D.int v) ∧ f ≤ l ∧ l < 16 ∧ k < 16 ∧ Least sz k f (l + 1) v) ∧ (cs.map (·.1)).Nodup
def code : List Key → Nat
  | [.inl a, .inl b, .inl c] => (a * 256 + b * 16 + c).toNat
  | _ => 0
theorem MemoOk.len {sz : List Int} {cs : List (List Key × D)} (h : MemoOk sz cs) : cs.length ≤ 4096 := by
  obtain ⟨h1, h2⟩ := h
  have h3 : ((cs.map (·.1)).map code).Nodup := by
    refine List.pairwise_map.mpr (h2.imp_of_mem fun {a b} ha hb ne q => ne ?_)
    obtain ⟨p, hp, rfl⟩ := List.mem_map.mp ha
    obtain ⟨p', hp', rfl⟩ := List.mem_map.mp hb
    obtain ⟨k, f, l, v, rfl, _, _, _, _⟩ := h1 p hp
    obtain ⟨k', f', l', v', rfl, _, _, _, _⟩ := h1 p' hp'
    have q : ((k : Int) * 256 + f * 16 + l).toNat = ((k' : Int) * 256 + f' * 16 + l').toNat := q
    show key3 k f l = key3 k' f' l'
    have e : k = k' ∧ f = f' ∧ l = l' := by omega
    obtain ⟨rfl, rfl, rfl⟩ := e
    rfl
  have h4 := nodup_len 4096 _ h3 fun x hx => by
    obtain ⟨y, hy, rfl⟩ := List.mem_map.mp hx
    obtain ⟨p, hp, rfl⟩ := List.mem_map.mp hy
    obtain ⟨k, f, l, v, rfl, _, _, _, _⟩ := h1 p hp
    show ((k : Int) * 256 + f * 16 + l).toNat < 4096
    omega
  simpa using h4
section
variable (sz : List Int) (M0 : Mem) (cs : List (List Key × D))
theorem at0 : (M0 ++ SM M0.length sz cs)[M0.length]? = some (.ins 1 [taskD sz, .fn "may_all", .loc (M0.length + 1), .loc (M0.length + 2), .loc (M0.length + 3)]) := by simp [SM]
theorem at1 : (M0 ++ SM M0.length sz cs)[M0.length + 1]? = some (.dT cs) := by simp [SM]
theorem v0 : view (M0 ++ SM M0.length sz cs) (.loc M0.length) = .obj 1 [taskD sz, .fn "may_all", .loc (M0.length + 1), .loc (M0.length + 2), .loc (M0.length + 3)] := view_loc _ _ _ (at0 sz M0 cs)
theorem v1 : view (M0 ++ SM M0.length sz cs) (.loc (M0.length + 1)) = .dT cs := view_loc _ _ _ (at1 sz M0 cs)
theorem set1 (cs' : List (List Key × D)) : (M0 ++ SM M0.length sz cs).set (M0.length + 1) (.dT cs') = M0 ++ SM M0.length sz cs' := by simp [SM]
theorem set1' (l : Nat) (cs' : List (List Key × D)) : (SM l sz cs).set 1 (.dT cs') = SM l sz cs' := rfl
theorem e_capped (d : D) (m f l : Int) (M : Mem) : F_Solver_capped [d, .int m, .int f, .int l] M = .ok (.tup [.int (min m (l - f + 1)), .int f, .int l]) M := by
  simp [F_Solver_capped, sizeMax]
theorem e_may (a b : D) (M : Mem) : F_may_all [a, b] M = .ok (.bl true) M := by simp [F_may_all]
variable {sz M0}
abbrev self (M0 : Mem) : D := .loc M0.length
/-- what own_cost is to do for spans shorter than N -/
def OwnOk (sz : List Int) (M0 : Mem) (N : Nat) (r : Fn) : Prop := ∀ (m f l : Nat) cs, 1 ≤ m → f ≤ l → l < sz.length → l - f < N → MemoOk sz cs →
  ∃ v cs', r [self M0, .int m, .int f, .int l] (M0 ++ SM M0.length sz cs) = .ok (.int v) (M0 ++ SM M0.length sz cs') ∧ MemoOk sz cs' ∧ Least sz m f (l + 1) v
theorem e_span {N : Nat} {r : Fn} (h : OwnOk sz M0 N r) (m f l : Nat) (cs) (hm : 1 ≤ m) (hf : f ≤ l) (hl : l < sz.length) (hN : l - f < N) (hc : MemoOk sz cs) :
    ∃ v cs', F_Solver_span_cost r [self M0, .int m, .int f, .int l] (M0 ++ SM M0.length sz cs) = .ok (.int v) (M0 ++ SM M0.length sz cs') ∧ MemoOk sz cs' ∧ Least sz m f (l + 1) v := by
  obtain ⟨v, cs', e, h1, h2⟩ := h m f l cs hm hf hl hN hc
  refine ⟨v, cs', ?_, h1, h2⟩
  simp [F_Solver_span_cost, v0, e, e_look_sum sz f l _ hf hl]
/-- the value of one top -/
theorem e_ahead {N : Nat} {r : Fn} (h : OwnOk sz M0 N r) (m f t : Nat) (cs) (hm : 1 ≤ m) (hf : f ≤ t) (hl : t < sz.length) (hN : t - f ≤ N) (hc : MemoOk sz cs) :
    ∃ v cs', F_Solver_ahead_cost r [self M0, .int m, .int f, .int t] (M0 ++ SM M0.length sz cs) = .ok (.int (v + S sz f t)) (M0 ++ SM M0.length sz cs') ∧ MemoOk sz cs' ∧ Least sz m f t v := by
  by_cases q : t = f
  · subst q
    refine ⟨0, cs, ?_, hc, .nil⟩
    simp [F_Solver_ahead_cost, v0, tabL, e_may, e_write_of sz t t _ (Nat.le_refl _) hl]
  · obtain ⟨v, cs', e, h1, h2⟩ := h m f (t - 1) cs hm (by omega) (by omega) (by omega) hc
    rw [show t - 1 + 1 = t by omega] at h2
    refine ⟨v, cs', ?_, h1, h2⟩
    have q' : ¬ ((t : Int) = (f : Int)) := by omega
    have e2 : ((t : Int) - 1) = ((t - 1 : Nat) : Int) := by omega
    simp [F_Solver_ahead_cost, v0, tabL, e_may, q, q', e2, e, e_write_of sz f t _ hf hl]
theorem e_behind {N : Nat} {r : Fn} (h : OwnOk sz M0 N r) (m t l : Nat) (cs) (hm : 1 ≤ m) (ht : t ≤ l) (hl : l < sz.length) (hN : l - t ≤ N) (hc : MemoOk sz cs) :
    ∃ d cs', F_Solver_behind_cost r [self M0, .int m, .int t, .int l] (M0 ++ SM M0.length sz cs) = .ok d (M0 ++ SM M0.length sz cs') ∧ MemoOk sz cs' ∧
      ((∃ v, d = .int v ∧ Least sz (m - 1) (t + 1) (l + 1) v) ∨ (d = .non ∧ m = 1 ∧ t < l)) := by
  by_cases q : t = l
  · subst q
    exact ⟨.int 0, cs, by simp [F_Solver_behind_cost], hc, .inl ⟨0, rfl, .nil⟩⟩
  · have q' : ¬ ((t : Int) = (l : Int)) := by omega
    by_cases q2 : m = 1
    · subst q2
      exact ⟨.non, cs, by simp [F_Solver_behind_cost, q, q'], hc, .inr ⟨rfl, rfl, by omega⟩⟩
    · have q3 : (1 : Int) < (m : Int) := by omega
      obtain ⟨v, cs', e, h1, h2⟩ := e_span h (m - 1) (t + 1) l cs (by omega) (by omega) hl (by omega) hc
      refine ⟨.int v, cs', ?_, h1, .inl ⟨v, rfl, h2⟩⟩
      rw [show (((m - 1 : Nat) : Int)) = (m : Int) - 1 by omega, show (((t + 1 : Nat) : Int)) = (t : Int) + 1 by omega] at e
      simp [F_Solver_behind_cost, q, q', q3, e, v0]
def Good (sz : List Int) (m f l t : Nat) (d : D) : Prop := (∃ v, d = .int v ∧ Cand sz m f (l + 1) t v) ∨ (d = .non ∧ m = 1 ∧ t < l)
theorem e_top {N : Nat} {r : Fn} (h : OwnOk sz M0 N r) (m f l t : Nat) (cs) (hm : 1 ≤ m) (hf : f ≤ t) (ht : t ≤ l) (hl : l < sz.length) (hN : l - f ≤ N) (hc : MemoOk sz cs) :
    ∃ d cs', F_Solver_top_cost r [self M0, .int m, .int f, .int l, .int t] (M0 ++ SM M0.length sz cs) = .ok d (M0 ++ SM M0.length sz cs') ∧ MemoOk sz cs' ∧ Good sz m f l t d := by
  obtain ⟨v1, cs1, e1, c1, l1⟩ := e_ahead h m f t cs hm hf (by omega) (by omega) hc
  obtain ⟨d2, cs2, e2, c2, h2⟩ := e_behind h m t l cs1 hm ht hl (by omega) c1
  rcases h2 with ⟨v2, rfl, l2⟩ | ⟨rfl, hm1, hlt⟩
  · refine ⟨.int (v1 + S sz f t + v2), cs2, ?_, c2, .inl ⟨_, rfl, v1, v2, l1, l2, rfl⟩⟩
    simp [F_Solver_top_cost, e1, e2, v0]
  · refine ⟨.non, cs2, ?_, c2, .inr ⟨rfl, hm1, hlt⟩⟩
    simp [F_Solver_top_cost, e1, e2, v0]
theorem e_own0 {N : Nat} : OwnOk sz M0 0 (F_Solver_own_cost 0) := fun m f l cs _ _ _ h => by omega
theorem filterN {ds : List D} {is : List (Option Int)} (h : ds = is.map fun o => match o with | some i => D.int i | none => D.non) : True := trivial
/-- the values that are told -/
def numsOf : List D → List Int
  | [] => []
  | .int i :: r => i :: numsOf r
  | _ :: r => numsOf r
theorem comp_notNone (E : J.Env) (M : Mem) (hE : E.length = 8) : ∀ ds : List D, (∀ d ∈ ds, d = .non ∨ ∃ v, d = .int v) → compL [7] (gN 7) (tV (c1 gNotN (cV 7))) (cV 7) ds E M = .ok ((numsOf ds).map D.int) M
  | [], _ => rfl
  | d :: ds, h => by
    have ih := comp_notNone E M hE ds fun x hx => h x (List.mem_cons_of_mem _ hx)
    have hw : (wipe E [7]).length = 8 := by simp [wipe, hE]
    rw [compL]
    rcases h d List.mem_cons_self with rfl | ⟨v, rfl⟩
    · simp [hw, wipe, hE, numsOf, ih]
    · simp [hw, wipe, hE, numsOf, ih]
theorem mem_numsOf : ∀ (ds : List D) (v : Int), v ∈ numsOf ds ↔ D.int v ∈ ds
  | [], v => by simp [numsOf]
  | d :: ds, v => by
    have ih := mem_numsOf ds v
    cases d with
    | int i => simp [numsOf, ih]
    | _ => simp [numsOf, ih]
theorem notIn_key (cs : List (List Key × D)) (k f l : Nat) : gNotIn (.tup [.int k, .int f, .int l]) (.dT cs) = some (.bl (!(cs.any fun kv => decide (kv.1 = key3 k f l)))) := rfl
theorem ix_key (cs : List (List Key × D)) (k f l : Nat) : gIx (.dT cs) (.tup [.int k, .int f, .int l]) = look cs (key3 k f l) := rfl
theorem put_key (cs : List (List Key × D)) (k f l : Nat) (d : D) (h : cs.length < sizeMax) : kPut (.tup [.int k, .int f, .int l]) d (.dT cs) = some (.dT (put cs (key3 k f l) d)) := by
  show (if cs.length < sizeMax then _ else none) = _
  rw [if_pos h]; rfl
theorem e_own {N : Nat} (h : OwnOk sz M0 N (F_Solver_own_cost N)) (hs : sz.length ≤ 12) : OwnOk sz M0 (N + 1) (F_Solver_own_cost (N + 1)) := by
  intro m f l cs hm hf hl' hN hc
  have ek : (min (m : Int) ((l : Int) - (f : Int) + 1)) = ((min m (l + 1 - f) : Nat) : Int) := by omega
  have hk : 1 ≤ min m (l + 1 - f) := by omega
  generalize hkk : min m (l + 1 - f) = k at ek hk
  cases q : cs.any fun kv => decide (kv.1 = key3 k f l) with
  | true =>
    obtain ⟨d, hd⟩ := look_any q
    obtain ⟨k', f', l', v, e, h1, _, _, h2⟩ := hc.1 _ (look_mem hd)
    have e1 : key3 k f l = key3 k' f' l' := congrArg Prod.fst e
    have e2 : d = .int v := congrArg Prod.snd e
    have e3 : k = k' ∧ f = f' ∧ l = l' := by
      simp [key3] at e1
      omega
    obtain ⟨rfl, rfl, rfl⟩ := e3
    subst e2
    refine ⟨v, cs, ?_, hc, ?_⟩
    · simp [F_Solver_own_cost, e_capped, ek, v0, v1, notIn_key, q, ix_key, hd, -gIx]
    · rw [← hkk] at h2
      exact h2.cap (by omega)
  | false =>
    -- the tops, one after another
    obtain ⟨ds, M', h1, ⟨cs', rfl, hc', hg⟩, hlen⟩ := compL_runI (vs := [6]) (g := gN 6) (f := cMethN 1 5 (F_Solver_top_cost (F_Solver_own_cost N)) (cV 0) (aCons (c2 gIx (cV 4) (cC (.int 0))) (aCons (cV 2) (aCons (cV 3) (aCons (cV 6) aNil)))))
      (E := [.sh (self M0), .sh (.int m), .sh (.int f), .sh (.int l), .sh (.tup [.int k, .int f, .int l]), .un, .un, .un]) (fun i : Nat => D.int ((f : Int) + (i : Int)))
      (fun out M => ∃ cs', M = M0 ++ SM M0.length sz cs' ∧ MemoOk sz cs' ∧ ∀ j d, out[j]? = some d → Good sz k f l (f + j) d) (List.range (l + 1 - f)) 0 (fun i x hx out M hl ⟨cs1, e1, c1, g1⟩ => by
        have hx2 : i < l + 1 - f ∧ x = i := by
          have := List.getElem?_eq_some_iff.mp hx
          obtain ⟨a, b⟩ := this
          simp at a b
          omega
        obtain ⟨hi, rfl⟩ := hx2
        subst e1
        obtain ⟨d, cs2, e2, c2, g2⟩ := e_top h k f l (f + x) cs1 hk (by omega) (by omega) hl' (by omega) c1
        refine ⟨_, d, _, rfl, ?_, cs2, rfl, c2, fun j d' hj => ?_⟩
        · rw [show (((f + x : Nat) : Int)) = (f : Int) + (x : Int) by omega] at e2
          simp [wipe, v0, e2]
        · by_cases qj : j < out.length
          · rw [List.getElem?_append_left qj] at hj
            exact g1 j d' hj
          · rw [List.getElem?_append_right (by omega)] at hj
            have : j - out.length = 0 := by
              have := (List.getElem?_eq_some_iff.mp hj).1
              simp at this; omega
            rw [this] at hj
            simp at hj
            subst hj
            rw [show j = x by omega]
            exact g2) [] (M0 ++ SM M0.length sz cs) rfl ⟨cs, rfl, hc, fun j d hj => by simp at hj⟩
    simp only [List.nil_append] at hg
    have hlen : ds.length = l + 1 - f := by simpa using hlen
    have hint : ∀ d ∈ ds, d = .non ∨ ∃ v, d = .int v := fun d hd => by
      obtain ⟨j, hj, e⟩ := List.getElem_of_mem hd
      rcases hg j d (by rw [List.getElem?_eq_getElem hj, e]) with ⟨v, e, _⟩ | ⟨e, _⟩
      · exact .inr ⟨v, e⟩
      · exact .inl e
    have hlast : ∃ d, ds[l - f]? = some d := ⟨_, List.getElem?_eq_getElem (by omega)⟩
    obtain ⟨dl, hdl⟩ := hlast
    obtain ⟨vl, el⟩ : ∃ v, dl = .int v := by
      rcases hg (l - f) dl hdl with ⟨v, e, _⟩ | ⟨_, _, z⟩
      · exact ⟨v, e⟩
      · omega
    subst el
    have hml : vl ∈ numsOf ds := (mem_numsOf ds vl).mpr (List.mem_of_getElem? hdl)
    obtain ⟨v, hv⟩ := minL_some (List.ne_nil_of_mem hml)
    obtain ⟨w1, w2⟩ := minL_spec hv
    have hleast : Least sz k f (l + 1) v := by
      refine least_of (by omega) (by omega) v ?_ fun t h1 h2 => ?_
      · obtain ⟨j, hj, e⟩ := List.getElem_of_mem ((mem_numsOf ds v).mp w1)
        rcases hg j (.int v) (by rw [List.getElem?_eq_getElem hj, e]) with ⟨w, ew, cw⟩ | ⟨e, _⟩
        · cases ew
          exact ⟨f + j, by omega, by omega, cw⟩
        · cases e
      · have hj : t - f < ds.length := by omega
        rcases hg (t - f) ds[t - f] (List.getElem?_eq_getElem hj) with ⟨w, ew, cw⟩ | ⟨_, e1, e2⟩
        · rw [show f + (t - f) = t by omega] at cw
          refine .inl ⟨w, cw, w2 w ((mem_numsOf ds w).mpr ?_)⟩
          rw [← ew]; exact List.getElem_mem hj
        · exact .inr ⟨e1, by omega⟩
    have hsz : cs'.length < sizeMax := by have := hc'.len; unfold sizeMax; omega
    have hput : MemoOk sz (put cs' (key3 k f l) (.int v)) := ⟨fun p hp => by
      rcases mem_put hp with rfl | hp
      · exact ⟨k, f, l, v, rfl, hf, by omega, by omega, hleast⟩
      · exact hc'.1 p hp, put_nodup hc'.2⟩
    refine ⟨v, _, ?_, hput, by rw [← hkk] at hleast; exact hleast.cap (by omega)⟩
    have e1 := comp_notNone [.sh (self M0), .sh (.int m), .sh (.int f), .sh (.int l), .sh (.tup [.int k, .int f, .int l]), .sh (.lst ds), .un, .un] (M0 ++ SM M0.length sz cs') rfl ds hint
    have e2 : 0 < (numsOf ds).length := List.length_pos_iff.mpr (List.ne_nil_of_mem hml)
    have e3 : gMin (.lst ((numsOf ds).map D.int)) = some (.int v) := gMin_lst hv
    have e4 : upFrom (f : Int) (l + 1 - f) = (List.range (l + 1 - f)).map fun (i : Nat) => D.int ((f : Int) + (i : Int)) := upFrom_map _ _
    have b1 : f ≤ sizeMax := by unfold sizeMax; omega
    have b2 : l + 1 ≤ sizeMax + f := by unfold sizeMax; omega
    have b3 : (l : Int).natAbs + 1 ≤ sizeMax := by unfold sizeMax; omega
    have b4 : ((l : Int) + 1).natAbs ≤ sizeMax := by unfold sizeMax; omega
    simp [F_Solver_own_cost, e_capped, ek, v0, v1, notIn_key, q, ix_key, -gIx, e4, b1, b2, b3, b4, h1, e1, e2, e3, at1, put_key, -kPut, hsz, set1', look_put]
theorem e_owns (hs : sz.length ≤ 12) : ∀ N, OwnOk sz M0 N (F_Solver_own_cost N)
  | 0 => e_own0 (N := 0)
  | N + 1 => e_own (e_owns hs N) hs
end
end K82
namespace K82
open PySem J PM

theorem e_is_integer (i : Int) (M : Mem) : F_is_integer [.int i] M = .ok (.bl true) M := by simp [F_is_integer]
theorem e_is_within (a b c : Int) (M : Mem) : F_is_within [.int a, .int b, .int c] M = .ok (.bl (decide (b ≤ a) && decide (a ≤ c))) M := by
  by_cases h : b ≤ a <;> simp [F_is_within, e_is_integer, h]
theorem e_row0 (M : Mem) : F_is_row [.tup [.int 0], .int 1, .int 0, .int 1000000000] M = .ok (.bl true) M := by
  have h : compL [4] (gN 4) tYes (cCall0 (ifN 3 F_is_within) (aCons (cV 4) (aCons (cV 2) (aCons (cV 3) aNil)))) [D.int 0] [.sh (.tup [.int 0]), .sh (.int 1), .sh (.int 0), .sh (.int 1000000000), .un] M = .ok [.bl true] M := by
    simp [compL, wipe, e_is_within]
  have e : gAll (.lst [.bl true]) = some (.bl true) := rfl
  simp [F_is_row, h, e]
theorem e_wrong0 (M : Mem) : F_first_wrong_row [.tup [.tup [.int 0]], .int 0, .int 1000000000] M = .ok .non M := by
  simp [F_first_wrong_row, upFrom, pairUp, forL, e_row0]
theorem e_task0 (M : Mem) : F_Task___init__ [.loc M.length, .tup [.tup [.int 0]], .tup [.tup [.int 0]]] (M ++ [.ins 0 []]) = .ok .non (M ++ [.ins 0 [.tup [.tup [.int 0]], .tup [.tup [.int 0]]]]) := by
  simp [F_Task___init__, e_wrong0]
theorem e_raw (a b : List D) (M : Mem) : F_raw_task [.lst a, .lst b] M = .ok (.obj 0 [.tup a, .tup b]) M := by
  have h : okM M.length M M = true := okM_refl _ _
  simp [F_raw_task, e_task0, sizeMax, h, lowDs, lowD]
theorem S_eq (sz : List Int) (f l : Nat) : gSum (.tup (cutD (dI sz) (some (f : Int)) (some ((l : Int) + 1)))) = some (.int (S sz f l)) := by
  have e6 : some ((l : Int) + 1) = some ((l + 1 : Nat) : Int) := by congr 1
  rw [e6, cutD_both]
  unfold dI
  rw [← List.map_drop, ← List.map_take, gSum_tup]
  rfl
theorem e_sized (sz : List Int) (hs : Sz sz) (M : Mem) : F_sized_task [.tup (dI sz), .int 0] M = .ok (taskD sz) M := by
  obtain ⟨h1, h2, h3⟩ := hs
  have b0 : sz.length ≤ sizeMax := by unfold sizeMax; omega
  -- a row
  have row : ∀ i < sz.length, compL [5] (gN 5) tYes (c1 gSum (cSl (cV 0) (oSome (cV 4)) (oSome (c2 gAdd (cV 5) (cC (.int 1)))))) ((List.range (sz.length - i)).map fun (j : Nat) => D.int ((i : Int) + (j : Int)))
      [.sh (.tup (dI sz)), .sh (.int 0), .sh (.int sz.length), .un, .sh (.int i), .un] M = .ok ((List.range (sz.length - i)).map fun j => D.int (S sz i (i + j))) M := by
    intro i hi
    refine compL_map (fun j : Nat => D.int ((i : Int) + (j : Int))) (fun j => D.int (S sz i (i + j))) _ fun j hj => ⟨_, rfl, ?_⟩
    have := S_eq sz i (i + j)
    rw [show (((i + j : Nat)) : Int) = (i : Int) + (j : Int) by omega] at this
    simp [wipe, this]
  have rows := compL_map (vs := [4]) (g := gN 4) (f := c1 gTuple (cComp [5] (iRng2 (cV 4) (cV 2)) (gN 5) tYes (c1 gSum (cSl (cV 0) (oSome (cV 4)) (oSome (c2 gAdd (cV 5) (cC (.int 1))))))))
    (E := [.sh (.tup (dI sz)), .sh (.int 0), .sh (.int sz.length), .un, .un, .un]) (M := M) (fun i : Nat => D.int (i : Int)) (fun i => D.tup ((List.range (sz.length - i)).map fun j => D.int (S sz i (i + j)))) (List.range sz.length) fun i hi => ⟨_, rfl, by
      have hi := List.mem_range.mp hi
      have b1 : i ≤ sizeMax := by omega
      have b2 : sz.length - i ≤ sizeMax := by omega
      have b3 : sz.length ≤ sizeMax + i := by omega
      have e4 : upFrom (i : Int) (sz.length - i) = (List.range (sz.length - i)).map fun (j : Nat) => D.int ((i : Int) + (j : Int)) := upFrom_map _ _
      simp [wipe, b0, b1, b2, b3, e4, row i hi]⟩
  have looks := compL_map (vs := [4]) (g := gN 4) (f := c2 gMul (cTup (aCons (cV 1) aNil)) (c2 gSub (cV 2) (cV 4)))
    (E := [.sh (.tup (dI sz)), .sh (.int 0), .sh (.int sz.length), .sh (.lst ((List.range sz.length).map fun i => D.tup ((List.range (sz.length - i)).map fun j => D.int (S sz i (i + j))))), .un, .un]) (M := M) (fun i : Nat => D.int (i : Int)) (fun i => D.tup ((List.replicate (sz.length - i) (0 : Int)).map D.int)) (List.range sz.length) fun i hi => ⟨_, rfl, by
      have hi := List.mem_range.mp hi
      have := gMul_tup1 (.int 0) ((sz.length : Int) - (i : Int)) (sz.length - i) (by omega) (by omega)
      simp [wipe, sizeMax, this]⟩
  simp only [List.map_replicate] at looks
  simp [F_sized_task, b0, upFrom0, rows, looks, e_raw, taskD]
theorem e_init (d : D) (M : Mem) : F_Solver___init__ [.loc M.length, d, .fn "may_all"] (M ++ [.ins 1 []]) = .ok .non (M ++ [.ins 1 [d, .fn "may_all", .loc (M.length + 1), .loc (M.length + 2), .loc (M.length + 3)], .dT [], .dT [], .dT []]) := by
  simp [F_Solver___init__]
theorem e_length (sz : List Int) (M : Mem) : F_length_of [taskD sz] M = .ok (.int sz.length) M := by simp [F_length_of, taskD]
theorem e_least_cost (sz : List Int) (hs : Sz sz) (m : Nat) (hm : 1 ≤ m) (M : Mem) : ∃ v, F_least_cost [taskD sz, .int m] M = .ok (.int v) M ∧ Least sz m 0 sz.length v := by
  obtain ⟨h1, h2, h3⟩ := hs
  obtain ⟨v, cs', e, hc, hl⟩ := e_span (M0 := M) (e_owns h2 14) m 0 (sz.length - 1) [] hm (by omega) (by omega) (by omega) ⟨fun p hp => (nomatch hp), List.nodup_nil⟩
  rw [show sz.length - 1 + 1 = sz.length by omega] at hl
  refine ⟨v, ?_, hl⟩
  have e2 := e_init (taskD sz) M
  have e3 : (M ++ [.ins 1 [taskD sz, .fn "may_all", .loc (M.length + 1), .loc (M.length + 2), .loc (M.length + 3)], .dT [], .dT [], .dT []]) = M ++ SM M.length sz [] := rfl
  rw [e3] at e2
  have e4 := e_length sz (M ++ SM M.length sz [])
  rw [show (((sz.length - 1 : Nat)) : Int) = (sz.length : Int) - 1 by omega] at e
  have e : F_Solver_span_cost (F_Solver_own_cost 14) [.loc M.length, .int m, .int 0, .int ((sz.length : Int) - 1)] (M ++ SM M.length sz []) = .ok (.int v) (M ++ SM M.length sz cs') := e
  have hk : okM M.length M M = true := okM_refl _ _
  simp [F_least_cost, scp, e2, e4, v0, e, lowD, hk]
end K82
namespace K82
open PySem J PM

abbrev dN (ns : List Nat) : List D := ns.map fun (n : Nat) => D.int (n : Int)
theorem S_gen (sz : List Int) (g h : Nat) : gSum (.tup (cutD (dI sz) (some (g : Int)) (some ((h : Int) + 1)))) = some (.int (S sz g h)) := S_eq sz g h
/-- the pairs of enumerate -/
theorem pair_enum (pl : List Nat) : pairUp (upFrom 0 pl.length) (dN pl) = ((List.range pl.length).zip pl).map fun p => D.tup [.int (p.1 : Int), .int (p.2 : Int)] := by
  rw [upFrom0, pairUp_map (fun n : Nat => D.int (n : Int)) (fun n : Nat => D.int (n : Int))]
/-! ## a drawn plan -/
theorem snoc_take {st : List Nat} {h m a g : Nat} (ha : a < m) (hg : (st ++ [h])[a]? = some g) : ((st ++ [h]).take m).take (a + 1) = st.take a ++ [g] := by
  have hlt : a < (st ++ [h]).length := (List.getElem?_eq_some_iff.mp hg).1
  have hal : a ≤ st.length := by rw [List.length_append, List.length_singleton] at hlt; omega
  rw [List.take_take, show min (a + 1) m = a + 1 by omega, List.take_add_one, hg, List.take_append_of_le_length hal]
  rfl
theorem cut_take (xs : List Nat) (k : Nat) : cutD (dN xs) none (some (k : Int)) = dN (xs.take k) := by
  rw [cutD_hi]
  show ((xs.map fun (n : Nat) => D.int (n : Int)).take k) = (xs.take k).map fun (n : Nat) => D.int (n : Int)
  rw [List.map_take]
theorem cut_take1 (xs : List Nat) (k : Nat) : cutD (dN xs) none (some ((k : Int) + 1)) = dN (xs.take (k + 1)) := by
  have e6 : some ((k : Int) + 1) = some ((k + 1 : Nat) : Int) := by congr 1
  rw [e6, cut_take]
theorem dN_snoc (xs : List Nat) (x : Nat) : dN xs ++ [D.int x] = dN (xs ++ [x]) := by simp
end K82
namespace K82
open PySem J PM

abbrev keyN (st : List Nat) : List Key := st.map fun (n : Nat) => .inl (n : Int)
theorem keyN_inj : ∀ {a b : List Nat}, keyN a = keyN b → a = b
  | [], [], _ => rfl
  | [], _ :: _, h => by cases h
  | _ :: _, [], h => by cases h
  | x :: a, y :: b, h => by
    have h : (Sum.inl (x : Int) : Key) :: keyN a = .inl (y : Int) :: keyN b := h
    injection h with h1 h2
    injection h1 with h1
    rw [keyN_inj h2, Int.ofNat.inj h1]
theorem keysOf_dN : ∀ st : List Nat, keysOf (dN st) = some (keyN st)
  | [] => rfl
  | x :: st => by
    have := keysOf_dN st
    show (keyOf (D.int x)).bind (fun k => (keysOf (dN st)).bind fun ks => some (k :: ks)) = _
    rw [this]; rfl
theorem keyD_keyN (st : List Nat) : (keyN st).map keyD = dN st := by simp
theorem look_of_mem {κ : Type} [DecidableEq κ] : ∀ {kvs : List (κ × D)} {k : κ} {d : D}, (kvs.map (·.1)).Nodup → (k, d) ∈ kvs → look kvs k = some d
  | p :: r, k, d, nd, h => by
    rw [List.map_cons, List.nodup_cons] at nd
    unfold look
    rw [List.find?_cons]
    rcases List.mem_cons.mp h with q | q
    · subst q; simp
    · have ne : ¬ p.1 = k := fun e => nd.1 (by rw [e]; exact List.mem_map.mpr ⟨_, q, rfl⟩)
      simp only [ne, decide_false]
      exact look_of_mem nd.2 q
/-- a dict of stacks with their costs -/
structure DOk (kvs : List (List Key × D)) : Prop where
  ks : ∀ p ∈ kvs, ∃ st v, p = (keyN st, D.int v)
  nd : (kvs.map (·.1)).Nodup
def Has (kvs : List (List Key × D)) (st : List Nat) (v : Int) : Prop := (keyN st, D.int v) ∈ kvs
/-- an entry is lowered or made -/
structure Upd (kvs kvs' : List (List Key × D)) (st : List Nat) (v : Int) : Prop where
  ok : DOk kvs'
  was : ∀ st' v', Has kvs' st' v' → Has kvs st' v' ∨ (st' = st ∧ v' = v)
  keep : ∀ st' c, (∃ w, Has kvs st' w ∧ w ≤ c) → ∃ w, Has kvs' st' w ∧ w ≤ c
  got : ∃ w, Has kvs' st w ∧ w ≤ v
theorem upd_put {kvs : List (List Key × D)} {st : List Nat} {v : Int} (h : DOk kvs) (hl : ∀ w, look kvs (keyN st) = some (.int w) → v ≤ w) : Upd kvs (put kvs (keyN st) (.int v)) st v := by
  have hm : Has (put kvs (keyN st) (.int v)) st v := look_mem look_put
  refine ⟨⟨fun p hp => ?_, put_nodup h.nd⟩, fun st' v' hv => ?_, fun st' c ⟨w, hw, hc⟩ => ?_, v, hm, Int.le_refl _⟩
  · rcases mem_put hp with q | q
    · exact ⟨st, v, q⟩
    · exact h.ks p q
  · rcases mem_put hv with q | q
    · right
      have e1 : keyN st' = keyN st := congrArg Prod.fst q
      have e2 : D.int v' = D.int v := congrArg Prod.snd q
      exact ⟨keyN_inj e1, D.int.inj e2⟩
    · exact .inl q
  · by_cases q : st' = st
    · subst q
      exact ⟨v, hm, Int.le_trans (hl w (look_of_mem h.nd hw)) hc⟩
    · refine ⟨w, ?_, hc⟩
      have hne : ¬ keyN st' = keyN st := fun e => q (keyN_inj e)
      unfold Has put
      split
      · exact List.mem_map.mpr ⟨_, hw, by simp only [hne, if_false]⟩
      · exact List.mem_append_left _ hw
theorem upd_keep {kvs : List (List Key × D)} {st : List Nat} {v w : Int} (h : DOk kvs) (hl : look kvs (keyN st) = some (.int w)) (hw : w ≤ v) : Upd kvs kvs st v :=
  ⟨h, fun _ _ q => .inl q, fun _ _ q => q, w, look_mem hl, hw⟩
abbrev dpIn : CS := sSeq (sAsg (gN 8) (c2 gAdd (cSl (cV 5) oNone (oSome (cV 6))) (cTup (aCons (cV 7) aNil)))) (sSeq (sAsg (gN 9) (c2 gAdd (c2 gIx (cV 2) (cV 5)) (c1 gSum (cSl (cV 0) (oSome (cV 7)) (oSome (c2 gAdd (cV 3) (cC (.int 1)))))))) (sIf (tOr (tV (c2 gNotIn (cV 8) (oV 4))) (tV (c2 gLt (cV 9) (c2 gIx (oV 4) (cV 8))))) (sPut (rOwn 4) (cV 8) (cV 9)) sNil))
theorem gNotIn_dT (kvs : List (List Key × D)) (st : List Nat) : gNotIn (.tup (dN st)) (.dT kvs) = some (.bl (!(kvs.any fun kv => decide (kv.1 = keyN st)))) := by
  show ((keysOf (dN st)).map fun ks => D.bl (kvs.any fun kv => decide (kv.1 = ks))).bind gNot = _
  rw [keysOf_dN]; rfl
theorem gIx_dT (kvs : List (List Key × D)) (st : List Nat) : gIx (.dT kvs) (.tup (dN st)) = look kvs (keyN st) := by
  show (keysOf (dN st)).bind (look kvs) = _
  rw [keysOf_dN]; rfl
theorem kPut_dT (kvs : List (List Key × D)) (st : List Nat) (d : D) (h : kvs.length < sizeMax) : kPut (.tup (dN st)) d (.dT kvs) = some (.dT (put kvs (keyN st) d)) := by
  show (if kvs.length < sizeMax then (keysOf (dN st)).map fun k => Cell.dT (put kvs k d) else none) = _
  rw [if_pos h, keysOf_dN]; rfl
theorem e_dpIn {sz : List Int} {b : List Nat} {F kvs : List (List Key × D)} {a g m h : Nat} {v0 : Int} {s8 s9 : Sl} {M : Mem} (hb : b.length ≤ 100) (hF : look F (keyN b) = some (.int v0)) (hk : DOk kvs) (hl : kvs.length < sizeMax) :
    ∃ kvs', dpIn [.sh (.tup (dI sz)), .sh (.int m), .sh (.dT F), .sh (.int h), .ow (.dT kvs), .sh (.tup (dN b)), .sh (.int a), .sh (.int g), s8, s9] M =
      .ok (.nx, [.sh (.tup (dI sz)), .sh (.int m), .sh (.dT F), .sh (.int h), .ow (.dT kvs'), .sh (.tup (dN b)), .sh (.int a), .sh (.int g), .sh (.tup (dN (b.take a ++ [g]))), .sh (.int (v0 + S sz g h))]) M ∧ Upd kvs kvs' (b.take a ++ [g]) (v0 + S sz g h) := by
  have l2 : min a b.length + 1 ≤ sizeMax := by unfold sizeMax; omega
  have l3 : 1 ≤ sizeMax := by decide
  cases q : kvs.any fun kv => decide (kv.1 = keyN (b.take a ++ [g])) with
  | false =>
    refine ⟨_, ?_, upd_put hk fun w hw => ?_⟩
    · simp [-List.map_append, -List.map_take, dN_snoc, cut_take, l2, l3, gNotIn_dT, gIx_dT, kPut_dT, -gIx, -kPut, hF, S_gen, q, hl]
    · have : (kvs.any fun kv => decide (kv.1 = keyN (b.take a ++ [g]))) = true := List.any_eq_true.mpr ⟨_, look_mem hw, by simp⟩
      rw [q] at this; cases this
  | true =>
    obtain ⟨d, hd⟩ := look_any q
    obtain ⟨st', w, e⟩ := hk.ks _ (look_mem hd)
    have ed : d = .int w := congrArg Prod.snd e
    subst ed
    by_cases hlt : v0 + S sz g h < w
    · refine ⟨_, ?_, upd_put hk fun w' hw => by rw [hd] at hw; cases hw; omega⟩
      simp [-List.map_append, -List.map_take, dN_snoc, cut_take, l2, l3, gNotIn_dT, gIx_dT, kPut_dT, -gIx, -kPut, hF, S_gen, q, hl, hd, hlt]
    · refine ⟨_, ?_, upd_keep hk hd (by omega)⟩
      simp [-List.map_append, -List.map_take, dN_snoc, cut_take, l2, l3, gNotIn_dT, gIx_dT, kPut_dT, -gIx, -kPut, hF, S_gen, q, hl, hd, hlt]
/-- there is an entry that is no more -/
def Got (kvs : List (List Key × D)) (st : List Nat) (c : Int) : Prop := ∃ w, Has kvs st w ∧ w ≤ c
/-- the dict of an hour in the making -/
structure Mid (sz : List Int) (m h : Nat) (kvs : List (List Key × D)) : Prop where
  ok : DOk kvs
  path : ∀ st v, Has kvs st v → ∃ pl, Path sz m 0 (h + 1) st pl v
def natK : Key → Nat
  | .inl i => i.toNat
  | .inr _ => 0
theorem natK_back : ∀ st : List Nat, (keyN st).map natK = st
  | [] => rfl
  | x :: st => by
    have := natK_back st
    show natK (.inl (x : Int)) :: (keyN st).map natK = x :: st
    rw [this]; rfl
theorem Mid.len {sz : List Int} {m h : Nat} {kvs : List (List Key × D)} (x : Mid sz m h kvs) (hh : h ≤ 11) : kvs.length ≤ 4096 := by
  have h3 : ((kvs.map (·.1)).map fun ks => bits (ks.map natK)).Nodup := by
    refine List.pairwise_map.mpr (x.ok.nd.imp_of_mem fun {a b} ha hb ne q => ne ?_)
    obtain ⟨p, hp, rfl⟩ := List.mem_map.mp ha
    obtain ⟨p', hp', rfl⟩ := List.mem_map.mp hb
    obtain ⟨st, v, rfl⟩ := x.ok.ks p hp
    obtain ⟨st', v', rfl⟩ := x.ok.ks p' hp'
    obtain ⟨pl, p1⟩ := x.path st v hp
    obtain ⟨pl', p2⟩ := x.path st' v' hp'
    have q : bits ((keyN st).map natK) = bits ((keyN st').map natK) := q
    rw [natK_back, natK_back] at q
    rw [bits_inj p1.sorted.1 p2.sorted.1 q]
  have h4 := nodup_len 4096 _ h3 fun z hz => by
    obtain ⟨y, hy, rfl⟩ := List.mem_map.mp hz
    obtain ⟨p, hp, rfl⟩ := List.mem_map.mp hy
    obtain ⟨st, v, rfl⟩ := x.ok.ks p hp
    obtain ⟨pl, p1⟩ := x.path st v hp
    show bits ((keyN st).map natK) < 4096
    rw [natK_back]
    exact bits_lt (n := 12) fun y hy => by have := p1.sorted.2 y hy; omega
  simpa using h4
theorem Mid.upd {sz : List Int} {m h : Nat} {kvs kvs' : List (List Key × D)} {st : List Nat} {v : Int} (x : Mid sz m h kvs) (u : Upd kvs kvs' st v) (p : ∃ pl, Path sz m 0 (h + 1) st pl v) : Mid sz m h kvs' :=
  ⟨u.ok, fun st' v' hv => by
    rcases u.was st' v' hv with q | ⟨rfl, rfl⟩
    · exact x.path st' v' q
    · exact p⟩
/-- one entry's runs, one after another -/
theorem e_dpMid {sz : List Int} {b pl : List Nat} {F kvs : List (List Key × D)} {m h : Nat} {v0 : Int} {s6 s7 s8 s9 : Sl} {M : Mem} (hh : h ≤ 11) (hF : look F (keyN b) = some (.int v0)) (p : Path sz m 0 h b pl v0) (hk : Mid sz m h kvs) :
    ∃ (kvs' : List (List Key × D)) (t6 t7 t8 t9 : Sl), forL (gT [gN 6, gN 7]) dpIn (((List.range ((b ++ [h]).take m).length).zip ((b ++ [h]).take m)).map fun p => D.tup [.int (p.1 : Int), .int (p.2 : Int)])
      [.sh (.tup (dI sz)), .sh (.int m), .sh (.dT F), .sh (.int h), .ow (.dT kvs), .sh (.tup (dN b)), s6, s7, s8, s9] M =
      .ok (.nx, [.sh (.tup (dI sz)), .sh (.int m), .sh (.dT F), .sh (.int h), .ow (.dT kvs'), .sh (.tup (dN b)), t6, t7, t8, t9]) M ∧ Mid sz m h kvs' ∧ (∀ st c, Got kvs st c → Got kvs' st c) ∧
      ∀ a g, a < m → (b ++ [h])[a]? = some g → Got kvs' (b.take a ++ [g]) (v0 + S sz g h) := by
  have hb : b.length ≤ 100 := by have := p.stl; omega
  obtain ⟨E', M', h1, rfl, kvs', t6, t7, t8, t9, rfl, h3, h4, h5⟩ := forL_run (g := gT [gN 6, gN 7]) (s := dpIn) (fun p : Nat × Nat => D.tup [.int (p.1 : Int), .int (p.2 : Int)])
    (fun i E M' => M' = M ∧ ∃ (kvs' : List (List Key × D)) (t6 t7 t8 t9 : Sl), E = [.sh (.tup (dI sz)), .sh (.int m), .sh (.dT F), .sh (.int h), .ow (.dT kvs'), .sh (.tup (dN b)), t6, t7, t8, t9] ∧ Mid sz m h kvs' ∧ (∀ st c, Got kvs st c → Got kvs' st c) ∧
      ∀ a g, a < i → a < m → (b ++ [h])[a]? = some g → Got kvs' (b.take a ++ [g]) (v0 + S sz g h))
    ((List.range ((b ++ [h]).take m).length).zip ((b ++ [h]).take m)) 0 (fun i q E M' hq ⟨hM, K1, x6, x7, x8, x9, hE, c1, c2, c3⟩ => by
      subst hM hE
      rw [Nat.zero_add] at c3 ⊢
      have hlt : i < ((b ++ [h]).take m).length := by
        have := (List.getElem?_eq_some_iff.mp hq).1
        simpa using this
      have him : i < m := by rw [List.length_take] at hlt; omega
      have hq2 : q.1 = i ∧ (b ++ [h])[i]? = some q.2 := by
        rw [List.getElem?_zip_eq_some] at hq
        obtain ⟨q1, q2⟩ := hq
        rw [List.getElem?_range hlt] at q1
        rw [List.getElem?_take_of_lt him] at q2
        exact ⟨(Option.some.inj q1).symm, q2⟩
      obtain ⟨rfl, hg⟩ := hq2
      have hl := c1.len hh
      obtain ⟨K2, e2, u⟩ := e_dpIn (b := b) (F := F) (a := q.1) (g := q.2) (m := m) (h := h) (s8 := x8) (s9 := x9) (M := M') hb hF c1.ok (by unfold sizeMax; omega)
      refine ⟨_, _, M', rfl, .inl e2, rfl, K2, _, _, _, _, rfl, c1.upd u ⟨_, Path.step p q.1 q.2 him hg⟩, fun st c hc => u.keep st c (c2 st c hc), fun a g ha ham hag => ?_⟩
      by_cases z : a = q.1
      · subst z
        rw [hg] at hag
        cases hag
        exact u.got
      · exact u.keep _ _ (c3 a g (by omega) ham hag)) _ M ⟨rfl, kvs, s6, s7, s8, s9, rfl, hk, fun _ _ q => q, fun a g ha => by omega⟩
  have hlen : ((List.range ((b ++ [h]).take m).length).zip ((b ++ [h]).take m)).length = min m (b.length + 1) := by simp
  rw [Nat.zero_add, hlen] at h5
  refine ⟨kvs', _, _, _, _, h1, h3, h4, fun a g ha hg => h5 a g ?_ ha hg⟩
  have := (List.getElem?_eq_some_iff.mp hg).1
  rw [List.length_append, List.length_singleton] at this
  omega
/-- the dict of hour h: of each stack the least cost -/
structure Found (sz : List Int) (m h : Nat) (F : List (List Key × D)) : Prop where
  ok : DOk F
  path : ∀ st v, Has F st v → ∃ pl, Path sz m 0 h st pl v
  all : ∀ st pl c, Path sz m 0 h st pl c → Got F st c
abbrev dpMid : CS := sFor (iEnum (cSl (c2 gAdd (cV 5) (cTup (aCons (cV 3) aNil))) oNone (oSome (cV 1)))) (gT [(gN 6), (gN 7)]) dpIn
theorem e_dpOut {sz : List Int} {F : List (List Key × D)} {m h : Nat} {s5 s6 s7 s8 s9 : Sl} {M : Mem} (hh : h ≤ 11) (hf : Found sz m h F) :
    ∃ (kvs' : List (List Key × D)) (t5 t6 t7 t8 t9 : Sl), forL (gN 5) dpMid (F.map fun kv => D.tup (kv.1.map keyD)) [.sh (.tup (dI sz)), .sh (.int m), .sh (.dT F), .sh (.int h), .ow (.dT []), s5, s6, s7, s8, s9] M =
      .ok (.nx, [.sh (.tup (dI sz)), .sh (.int m), .sh (.dT F), .sh (.int h), .ow (.dT kvs'), t5, t6, t7, t8, t9]) M ∧ Found sz m (h + 1) kvs' := by
  obtain ⟨E', M', h1, rfl, kvs', t5, t6, t7, t8, t9, rfl, h3, h4⟩ := forL_run (g := gN 5) (s := dpMid) (fun kv : List Key × D => D.tup (kv.1.map keyD))
    (fun i E M' => M' = M ∧ ∃ (kvs' : List (List Key × D)) (t5 t6 t7 t8 t9 : Sl), E = [.sh (.tup (dI sz)), .sh (.int m), .sh (.dT F), .sh (.int h), .ow (.dT kvs'), t5, t6, t7, t8, t9] ∧ Mid sz m h kvs' ∧
      ∀ j b v0, j < i → F[j]? = some (keyN b, .int v0) → ∀ a g, a < m → (b ++ [h])[a]? = some g → Got kvs' (b.take a ++ [g]) (v0 + S sz g h))
    F 0 (fun i q E M' hq ⟨hM, K1, x5, x6, x7, x8, x9, hE, c1, c2⟩ => by
      subst hM hE
      rw [Nat.zero_add] at c2 ⊢
      have hqF := List.mem_of_getElem? hq
      obtain ⟨b, v0, rfl⟩ := hf.ok.ks q hqF
      obtain ⟨pl, p⟩ := hf.path b v0 hqF
      have hlk := look_of_mem hf.ok.nd hqF
      have hb : b.length ≤ 100 := by have := p.stl; omega
      obtain ⟨K2, t6, t7, t8, t9, e2, d1, d2, d3⟩ := e_dpMid (s6 := x6) (s7 := x7) (s8 := x8) (s9 := x9) (M := M') hh hlk p c1
      rw [← pair_enum] at e2
      refine ⟨[.sh (.tup (dI sz)), .sh (.int m), .sh (.dT F), .sh (.int h), .ow (.dT K1), .sh (.tup (dN b)), x6, x7, x8, x9], _, M', ?_, .inl ?_, rfl, K2, .sh (.tup (dN b)), t6, t7, t8, t9, rfl, d1, ?_⟩
      · rw [keyD_keyN]; rfl
      · have l3 : b.length + 1 ≤ sizeMax := by unfold sizeMax; omega
        have l4 : 1 ≤ sizeMax := by decide
        have l5 : ((b ++ [h]).take m).length = min m (b.length + 1) := by simp
        rw [l5] at e2
        simp [-List.map_append, -List.map_take, dN_snoc, cut_take, l3, l4, e2]
      · intro j b' v' hj hq' a g ha hg
        by_cases z : j = i
        · subst z
          rw [hq] at hq'
          have e1 : keyN b = keyN b' := congrArg Prod.fst (Option.some.inj hq')
          have e2 : D.int v0 = D.int v' := congrArg Prod.snd (Option.some.inj hq')
          have e1 := keyN_inj e1
          have e2 := D.int.inj e2
          subst e1 e2
          exact d3 a g ha hg
        · exact d2 _ _ (c2 j b' v' (by omega) hq' a g ha hg)) _ M ⟨rfl, [], s5, s6, s7, s8, s9, rfl, ⟨⟨fun p hp => (nomatch hp), List.nodup_nil⟩, fun st v hv => (nomatch hv)⟩, fun j b v0 hj => by omega⟩
  rw [Nat.zero_add] at h4
  refine ⟨kvs', _, _, _, _, _, h1, h3.ok, h3.path, fun st pl c p => ?_⟩
  cases p with
  | step p a g ha hg =>
    rename_i st0 pl0 c0
    obtain ⟨w, hw, hc⟩ := hf.all _ _ _ p
    obtain ⟨j, hj, e⟩ := List.getElem_of_mem hw
    obtain ⟨w', hw', hc'⟩ := h4 j _ w hj (by rw [List.getElem?_eq_getElem hj, e]) a g ha hg
    exact ⟨w', hw', by omega⟩
theorem path_ex (sz : List Int) {m : Nat} (hm : 0 < m) (h0 : Nat) : ∀ k, ∃ st pl c, Path sz m h0 (h0 + k) st pl c
  | 0 => ⟨_, _, _, .nil⟩
  | k + 1 => by
    obtain ⟨st, pl, c, p⟩ := path_ex sz hm h0 k
    have : ∃ g, (st ++ [h0 + k])[0]? = some g := by cases st <;> simp
    obtain ⟨g, hg⟩ := this
    exact ⟨_, _, _, .step p 0 g hm hg⟩
theorem numsOf_map : ∀ ds : List D, (∀ d ∈ ds, ∃ v, d = .int v) → ds = (numsOf ds).map D.int
  | [], _ => rfl
  | d :: ds, h => by
    obtain ⟨v, rfl⟩ := h d List.mem_cons_self
    have := numsOf_map ds fun x hx => h x (List.mem_cons_of_mem _ hx)
    show D.int v :: ds = D.int v :: (numsOf ds).map D.int
    rw [← this]
theorem Found.least {sz : List Int} {m n : Nat} {F : List (List Key × D)} (hf : Found sz m n F) (hm : 0 < m) : ∃ v, gMin (.lst (F.map (·.2))) = some (.int v) ∧ Least sz m 0 n v := by
  have hi : ∀ d ∈ F.map (·.2), ∃ v, d = .int v := fun d hd => by
    obtain ⟨p, hp, rfl⟩ := List.mem_map.mp hd
    obtain ⟨st, v, rfl⟩ := hf.ok.ks p hp
    exact ⟨v, rfl⟩
  have e := numsOf_map _ hi
  obtain ⟨st, pl, c, p⟩ := path_ex sz hm 0 n
  rw [Nat.zero_add] at p
  obtain ⟨w, hw, _⟩ := hf.all _ _ _ p
  have hmem : ∀ st w, Has F st w → w ∈ numsOf (F.map (·.2)) := fun st w hw => (mem_numsOf _ w).mpr (List.mem_map.mpr ⟨_, hw, rfl⟩)
  obtain ⟨v, hv⟩ := minL_some (List.ne_nil_of_mem (hmem st w hw))
  obtain ⟨v1, v2⟩ := minL_spec hv
  refine ⟨v, by rw [e]; exact gMin_lst hv, ?_, fun st pl c p => ?_⟩
  · have := (mem_numsOf _ v).mp v1
    obtain ⟨q, hq, eq⟩ := List.mem_map.mp this
    obtain ⟨st, v', rfl⟩ := hf.ok.ks q hq
    have ev : v' = v := D.int.inj eq
    subst ev
    obtain ⟨pl, p⟩ := hf.path st v' hq
    exact ⟨st, pl, p⟩
  · obtain ⟨w, hw, hc⟩ := hf.all _ _ _ p
    have := v2 w (hmem st w hw)
    omega
theorem e_law_least (sz : List Int) (hs : sz.length ≤ 12) (m : Nat) (hm : 0 < m) (M : Mem) : ∃ v, F__law_least [.tup (dI sz), .int m] M = .ok (.int v) M ∧ Least sz m 0 sz.length v := by
  obtain ⟨E', M', h1, rfl, F, x3, x4, x5, x6, x7, x8, x9, rfl, hf⟩ := forL_run (g := gN 3) (s := sSeq (sOwn 4 cDT) (sSeq (sFor (iKey (cV 2)) (gN 5) dpMid) (sSeq (sFrz 4) (sAsg (gN 2) (cV 4)))))
    (fun i : Nat => D.int (i : Int)) (fun i E M' => M' = M ∧ ∃ (F : List (List Key × D)) (x3 x4 x5 x6 x7 x8 x9 : Sl), E = [.sh (.tup (dI sz)), .sh (.int m), .sh (.dT F), x3, x4, x5, x6, x7, x8, x9] ∧ Found sz m i F) (List.range sz.length) 0
    (fun i x E M' hx ⟨hM, F, x3, x4, x5, x6, x7, x8, x9, hE, hf⟩ => by
      subst hM hE
      rw [Nat.zero_add] at hf ⊢
      have hi : i < sz.length ∧ x = i := by
        obtain ⟨a, b⟩ := List.getElem?_eq_some_iff.mp hx
        simp at a b
        omega
      obtain ⟨hi, rfl⟩ := hi
      obtain ⟨K, t5, t6, t7, t8, t9, e1, e2⟩ := e_dpOut (s5 := x5) (s6 := x6) (s7 := x7) (s8 := x8) (s9 := x9) (M := M') (h := x) (by omega) hf
      refine ⟨_, [.sh (.tup (dI sz)), .sh (.int m), .sh (.dT K), .sh (.int x), .sh (.dT K), t5, t6, t7, t8, t9], M', rfl, .inl ?_, rfl, K, .sh (.int x), .sh (.dT K), t5, t6, t7, t8, t9, rfl, e2⟩
      simp [e1]) [.sh (.tup (dI sz)), .sh (.int m), .sh (.dT [([], .int 0)]), .un, .un, .un, .un, .un, .un, .un] M
    ⟨rfl, [([], .int 0)], .un, .un, .un, .un, .un, .un, .un, rfl, ⟨⟨fun p hp => ⟨[], 0, List.mem_singleton.mp hp⟩, by simp⟩, fun st v hv => by
      have := List.mem_singleton.mp hv
      have e1 : keyN st = keyN [] := congrArg Prod.fst this
      have e2 : D.int v = D.int 0 := congrArg Prod.snd this
      have e1 := keyN_inj e1
      have e2 := D.int.inj e2
      subst e1 e2
      exact ⟨[], .nil⟩, fun st pl c p => by
      have h1 := p.len
      have h2 := p.stl
      have e1 : pl = [] := List.length_eq_zero_iff.mp (by omega)
      have e2 : st = [] := List.length_eq_zero_iff.mp (by omega)
      subst e1 e2
      have := p.paid
      exact ⟨0, List.mem_cons_self, by rw [this]; exact Int.le_refl _⟩⟩⟩
  rw [List.length_range, Nat.zero_add] at hf
  obtain ⟨v, e2, hv⟩ := hf.least hm
  refine ⟨v, ?_, hv⟩
  rw [← upFrom0] at h1
  have l0 : sz.length ≤ sizeMax := by unfold sizeMax; omega
  simp [F__law_least, l0, h1, e2, keysOf]
end K82
namespace K82
open PySem J PM PG
def pD (q : Q) : D := .tup [.int q.1, .int q.2]
def oQ : Option Q → D
  | none => .non
  | some q => pD q
def spotD (row : List Int) (as b : List Nat) (p : Int) : D := .obj 2 [.tup (dI row), .tup (dN as), .tup (dN b), .int p]
theorem sm64 {a : Int} (h : 0 ≤ a) (h2 : a ≤ 200) : small64 a = true := by simp [small64]; omega
theorem gm_sm {a b : Int} (h : 0 ≤ a) (h2 : a ≤ 200) : gMul (.int a) (.int b) = some (.int (a * b)) := gMul_int _ _ (.inl (sm64 h h2))
theorem e_is_less {p q : Q} (hp : Sm p) (hq : Sm q) (M : Mem) : F_is_less [pD p, pD q] M = .ok (.bl (more q p)) M := by
  have a1 := gm_sm (b := q.2) hp.1 hp.2.1
  have a2 := gm_sm (b := p.2) hq.1 hq.2.1
  simp [F_is_less, pD, a1, a2, more, ixN]
theorem e_law_more {p q : Q} (hp : Sm p) (hq : Sm q) (M : Mem) : F__law_more [pD p, pD q] M = .ok (.bl (more p q)) M := by
  have a1 := gm_sm (b := q.2) hp.1 hp.2.1
  have a2 := gm_sm (b := p.2) hq.1 hq.2.1
  simp [F__law_more, pD, a1, a2, more, ixN]
/-! ## lowest terms -/
theorem gcd_step (x y : Nat) : Nat.gcd y (x % y) = Nat.gcd x y := by rw [Nat.gcd_comm x y, Nat.gcd_rec y x, Nat.gcd_comm]
def gcdL (n : Nat) : CS := whileN (tV (c2 gNe (cV 1) (cC (.int 0)))) (sPar 0 1 (aCons (cV 1) (aCons (c2 gMod (cV 0) (cV 1)) aNil))) n
theorem e_wh0 (n : Nat) (x : Nat) (M : Mem) : gcdL (n + 1) [.sh (.int x), .sh (.int 0)] M = .ok (.nx, [.sh (.int x), .sh (.int 0)]) M := by simp [gcdL, whileN]
theorem e_whS (n : Nat) (x y : Nat) (z : y ≠ 0) (M : Mem) : gcdL (n + 1) [.sh (.int x), .sh (.int y)] M = gcdL n [.sh (.int y), .sh (.int ((x % y : Nat) : Int))] M := by
  have hy : (0 : Int) < y := by omega
  have hz : ¬ ((y : Int) = 0) := by omega
  have e := gMod_int (x : Int) (y : Int) hy
  rw [← Int.natCast_emod] at e
  unfold gcdL
  rw [whileN]
  simp only [tV, c2, cV, cC, R.bind, R.stB, gNe_int, sPar, aCons, aNil, R.stA]
  simp [hz, z, e]
theorem mod_half {y z : Nat} (h0 : z ≠ 0) (h : z < y) {j : Nat} (hy : y < 2 ^ (j + 1)) : y % z < 2 ^ j := by
  have h1 := Nat.mod_lt y (show 0 < z by omega)
  have h2 : y % z + z ≤ y := by
    have := Nat.mod_add_div y z
    have h3 : 1 ≤ y / z := Nat.div_pos (by omega) (by omega)
    have h4 : z * 1 ≤ z * (y / z) := Nat.mul_le_mul_left z h3
    omega
  rw [Nat.pow_succ] at hy
  omega
theorem e_while (M : Mem) : ∀ (j n x y : Nat), y < 2 ^ j → 2 * j < n → gcdL n [.sh (.int x), .sh (.int y)] M = .ok (.nx, [.sh (.int (Nat.gcd x y : Nat)), .sh (.int 0)]) M
  | 0, n, x, y, h, hn => by
    obtain ⟨n', rfl⟩ : ∃ n', n = n' + 1 := ⟨n - 1, by omega⟩
    have : y = 0 := by simpa using h
    subst this
    rw [Nat.gcd_zero_right]; exact e_wh0 n' x M
  | j + 1, n, x, y, h, hn => by
    obtain ⟨n', rfl⟩ : ∃ n', n = n' + 1 + 1 := ⟨n - 2, by omega⟩
    by_cases z : y = 0
    · subst z
      rw [Nat.gcd_zero_right]; exact e_wh0 _ x M
    · rw [e_whS _ _ _ z, ← gcd_step x y]
      by_cases z2 : x % y = 0
      · rw [z2, Nat.gcd_zero_right]; exact e_wh0 _ y M
      · have lt := Nat.mod_lt x (show 0 < y by omega)
        rw [e_whS _ _ _ z2, ← gcd_step y (x % y)]
        exact e_while M j n' _ _ (mod_half z2 lt h) (by omega)
theorem e_common (x y : Nat) (hy : y < 2 ^ 190) (M : Mem) : F_common_divisor [.int x, .int y] M = .ok (.int (Nat.gcd x y : Nat)) M := by
  have e := e_while M 190 400 x y hy (by decide)
  have sh : F_common_divisor = body 2 2 (sSeq (gcdL 400) (sRet (cV 0))) := rfl
  rw [sh]
  generalize gcdL 400 = L at e
  simp [e]
theorem e_lowest {q : Q} (h : Sm q) (h2 : q.2 < 200) (M : Mem) : F_lowest [.int q.1, .int q.2] M = .ok (pD (low q)) M := by
  obtain ⟨a, b⟩ := q
  obtain ⟨h0, h1, h3, h4⟩ := h
  dsimp only at h0 h1 h2 h3 h4
  obtain ⟨x, rfl⟩ := Int.eq_ofNat_of_zero_le h0
  obtain ⟨y, rfl⟩ := Int.eq_ofNat_of_zero_le (show 0 ≤ b by omega)
  have g0 : 0 < Nat.gcd x y := Nat.gcd_pos_of_pos_right _ (by omega)
  have g1 : Nat.gcd x y ≤ y := Nat.gcd_le_right _ (by omega)
  have d1 := gDiv_int (x : Int) (Nat.gcd x y : Nat) (by omega) (by omega)
  have d2 := gDiv_int (y : Int) (Nat.gcd x y : Nat) (by omega) (by omega)
  have two : 2 ≤ sizeMax := by decide
  simp [F_lowest, e_common x y (Nat.lt_of_lt_of_le (show y < 2 ^ 8 by omega) (Nat.pow_le_pow_right (by decide) (by decide))), d1, d2, pD, low, Int.gcd, two]
/-! ## checks -/
theorem e_check_number (x a b : Int) (h1 : a ≤ x) (h2 : x ≤ b) (M : Mem) : F_check_number [.int x, .int a, .int b] M = .ok .non M := by
  simp [F_check_number, e_is_within, h1, h2]
theorem e_check_game (m h k : Int) (m1 : 1 ≤ m) (m2 : m ≤ 4) (h1 : 1 ≤ h) (h2 : h ≤ 6) (k1 : 1 ≤ k) (k2 : k ≤ 4) (M : Mem) : F_check_game [.int m, .int h, .int k] M = .ok .non M := by
  simp [F_check_game, e_check_number, *]
theorem e_small_loop (h k : Int) (P : Nat → Int) (hP : ∀ i, jMul (P i) k = some (P (i + 1))) (M : Mem) : ∀ (n i : Nat) (x : Sl), ∃ x', forL (gN 3) (sAug 2 jMul (cV 1)) (upFrom i n) [.sh (.int h), .sh (.int k), .sh (.int (P i)), x] M = .ok (.nx, [.sh (.int h), .sh (.int k), .sh (.int (P (i + n))), x']) M
  | 0, i, x => ⟨x, rfl⟩
  | n + 1, i, x => by
    obtain ⟨x', e⟩ := e_small_loop h k P hP M n (i + 1) (.sh (.int i))
    refine ⟨x', ?_⟩
    rw [show i + 1 + n = i + (n + 1) by omega] at e
    rw [show (((i + 1 : Nat)) : Int) = (i : Int) + 1 by omega] at e
    rw [← e, upFrom, forL]
    have j : sAug 2 jMul (cV 1) [.sh (.int h), .sh (.int k), .sh (.int (P i)), .sh (.int i)] M = .ok (.nx, [.sh (.int h), .sh (.int k), .sh (.int (P (i + 1))), .sh (.int i)]) M := by
      show (match jMul (P i) k with | some c => _ | none => _) = _
      rw [hP]; rfl
    show (match sAug 2 jMul (cV 1) [.sh (.int h), .sh (.int k), .sh (.int (P i)), .sh (.int i)] M with | .ok (.nx, E) M => _ | .ok (.ct, E) M => _ | .ok (.bk, E) M => _ | r => r) = _
    rw [j]
theorem e_small_fn (h k z : Int) (hh : 0 ≤ h) (h6 : h ≤ 6) (hz : ¬ 400 < z) {x' : Sl} {M : Mem} (e : forL (gN 3) (sAug 2 jMul (cV 1)) (upFrom 0 h.toNat) [.sh (.int h), .sh (.int k), .sh (.int 1), .un] M = .ok (.nx, [.sh (.int h), .sh (.int k), .sh (.int z), x']) M) : F_check_small [.int h, .int k] M = .ok .non M := by
  have l0 : h.natAbs ≤ sizeMax := by unfold sizeMax; omega
  simp [F_check_small, l0, e, F_check_many, hz]
theorem e_check_small (h k : Nat) (hk4 : k ≤ 4) (hh : h ≤ 6) (hp : k ^ h ≤ 400) (M : Mem) : F_check_small [.int h, .int k] M = .ok .non M := by
  obtain ⟨x', e⟩ := e_small_loop h k (fun i => ((k ^ i : Nat) : Int)) (fun i => by
    have : small64 (k : Int) = true := sm64 (by omega) (by omega)
    show jMul ((k ^ i : Nat) : Int) (k : Int) = some (((k ^ (i + 1) : Nat)) : Int)
    rw [Nat.pow_succ, Int.natCast_mul]
    unfold jMul
    rw [this, Bool.or_true, if_pos rfl]) M h 0 .un
  have e0 : ((k ^ 0 : Nat) : Int) = 1 := by rw [Nat.pow_zero]; rfl
  simp only [e0, Nat.zero_add] at e
  exact e_small_fn h k _ (by omega) (by omega) (by omega) e
theorem sizes_up (k : Nat) : upFrom 1 k = dI (sizes k) := by rw [upFrom_map, sizes]; simp
end K82
namespace K82
open PySem J PM PG
/-- a two-for comprehension that changes nothing -/
theorem _root_.J.compL2_flat {vs vs1 : List Nat} {g : CG} {it1 : CA} {g1 : CG} {f : CE} {E : J.Env} {M : Mem} {α : Type} (el : α → D) (outs : α → List D) (c : Nat) : ∀ (xs : List α) (acc : List D)
    (h : ∀ x ∈ xs, ∃ E1 is, g (el x) (wipe E vs) = some E1 ∧ it1 E1 M = .ok is M ∧ compL vs1 g1 tYes f is E1 M = .ok (outs x) M ∧ is.length = c ∧ (outs x).length = c), acc.length + xs.length * c ≤ sizeMax →
    compL2 vs vs1 g tYes it1 g1 tYes f (xs.map el) acc E M = .ok (acc ++ xs.flatMap outs) M
  | [], acc, h, hl => by simp [compL2]
  | x :: xs, acc, h, hl => by
    obtain ⟨E1, is, h1, h2, h3, h4, h5⟩ := h x List.mem_cons_self
    rw [List.length_cons, Nat.succ_mul] at hl
    have ih := J.compL2_flat el outs c xs (acc ++ outs x) (fun y hy => h y (List.mem_cons_of_mem _ hy)) (by rw [List.length_append]; omega)
    rw [List.map_cons, compL2, h1]
    dsimp only [tYes, R.nox, R.bind]
    rw [if_pos rfl, h2]
    dsimp only [R.nox, R.bind]
    rw [if_pos (by omega), h3]
    dsimp only [R.nox, R.bind]
    rw [ih, List.flatMap_cons, List.append_assoc]
abbrev keyI (row : List Int) : List Key := row.map fun i => .inl i
theorem keysOf_dI : ∀ row : List Int, keysOf (dI row) = some (keyI row)
  | [] => rfl
  | i :: row => by
    show (some (Sum.inl i : Key)).bind (fun k => (keysOf (dI row)).bind fun ks => some (k :: ks)) = _
    rw [keysOf_dI row]; rfl
theorem keyI_inj : ∀ {a b : List Int}, keyI a = keyI b → a = b
  | [], [], _ => rfl
  | [], _ :: _, h => by cases h
  | _ :: _, [], h => by cases h
  | x :: a, y :: b, h => by
    have h : (Sum.inl x : Key) :: keyI a = .inl y :: keyI b := h
    rw [keyI_inj (List.cons.inj h).2, Sum.inl.inj (List.cons.inj h).1]
/-- a dict of rows, of values by the row -/
structure RDict (due : List Int → Int) (kvs : List (List Key × D)) : Prop where
  all : ∀ p ∈ kvs, ∃ row, p = (keyI row, D.int (due row))
theorem RDict.look {due : List Int → Int} {kvs : List (List Key × D)} (h : RDict due kvs) {row : List Int} (a : (kvs.any fun kv => decide (kv.1 = keyI row)) = true) : J.look kvs (keyI row) = some (.int (due row)) := by
  obtain ⟨d, hd⟩ := look_any a
  obtain ⟨r, e⟩ := h.all _ (look_mem hd)
  have e1 := keyI_inj (congrArg Prod.fst e)
  have e2 : d = .int (due r) := congrArg Prod.snd e
  rw [hd, e2, e1]
theorem RDict.put {due : List Int → Int} {kvs : List (List Key × D)} (h : RDict due kvs) (row : List Int) : RDict due (J.put kvs (keyI row) (.int (due row))) := ⟨fun p hp => by
  rcases mem_put hp with e | e
  · exact ⟨row, e⟩
  · exact h.all p e⟩
theorem any_put {kvs : List (List Key × D)} {k k' : List Key} {d : D} (h : k = k' ∨ (kvs.any fun kv => decide (kv.1 = k')) = true) : ((J.put kvs k d).any fun kv => decide (kv.1 = k')) = true := by
  unfold J.put
  rcases h with rfl | h
  · split
    · rename_i a
      obtain ⟨x, hx, e⟩ := List.any_eq_true.mp a
      have e : x.1 = k := by simpa using e
      refine List.any_eq_true.mpr ⟨(x.1, d), List.mem_map.mpr ⟨x, hx, by rw [if_pos e]⟩, by simpa using e⟩
    · exact List.any_eq_true.mpr ⟨(k, d), by simp, by simp⟩
  · obtain ⟨x, hx, e⟩ := List.any_eq_true.mp h
    split
    · refine List.any_eq_true.mpr ⟨_, List.mem_map_of_mem hx, ?_⟩
      split <;> exact e
    · exact List.any_eq_true.mpr ⟨x, List.mem_append_left _ hx, e⟩
theorem put_len {κ : Type} [DecidableEq κ] (kvs : List (κ × D)) (k : κ) (d : D) : (J.put kvs k d).length ≤ kvs.length + 1 := by
  unfold J.put
  split
  · rw [List.length_map]; omega
  · rw [List.length_append]; simp
theorem compDT_rows {vs : List Nat} {g : CG} {fk fv : CE} {E : J.Env} {M : Mem} {due : List Int → Int} : ∀ (xs : List (List Int)) (acc : List (List Key × D))
    (h : ∀ x ∈ xs, ∃ E1, g (.tup (dI x)) (wipe E vs) = some E1 ∧ fk E1 M = .ok (.tup (dI x)) M ∧ fv E1 M = .ok (.int (due x)) M), acc.length + xs.length < sizeMax → RDict due acc →
    ∃ kvs, compDT vs g tYes fk fv (xs.map fun x => .tup (dI x)) acc E M = .ok kvs M ∧ RDict due kvs ∧ ∀ row, row ∈ xs ∨ (acc.any fun kv => decide (kv.1 = keyI row)) = true → (kvs.any fun kv => decide (kv.1 = keyI row)) = true
  | [], acc, h, hl, r => ⟨acc, rfl, r, fun row z => by rcases z with z | z; exact nomatch z; exact z⟩
  | x :: xs, acc, h, hl, r => by
    obtain ⟨E1, h1, h2, h3⟩ := h x List.mem_cons_self
    rw [List.length_cons] at hl
    have pl := put_len acc (keyI x) (D.int (due x))
    obtain ⟨kvs, e, r2, a⟩ := compDT_rows xs (J.put acc (keyI x) (.int (due x))) (fun y hy => h y (List.mem_cons_of_mem _ hy)) (by omega) (r.put x)
    refine ⟨kvs, ?_, r2, fun row z => a row ?_⟩
    · rw [List.map_cons, compDT, h1]
      dsimp only [tYes, R.nox, R.bind]
      rw [if_pos rfl, h2]
      dsimp only [R.nox, R.bind]
      rw [h3]
      dsimp only [R.nox, R.bind]
      rw [keysOf_dI]
      dsimp only
      rw [if_pos (by omega), e]
    · rcases z with z | z
      · rcases List.mem_cons.mp z with e | z
        · subst e; exact .inr (any_put (.inl rfl))
        · exact .inl z
      · exact .inr (any_put (.inr z))
/-! ## the rows -/
def rowsD (rs : List (List Int)) : List D := rs.map fun r => .tup (dI r)
theorem layer_comp {k : Nat} (hk : k ≤ 4) {rs : List (List Int)} (hl : rs.length ≤ 400) (hr : ∀ r ∈ rs, r.length ≤ 10) (h : Int) (own : Sl) (x4 : Sl) (M : Mem) {x5 x6 : Sl} :
    compL2 [5, 6] [6] (gN 5) tYes (iRng2 (cC (.int 1)) (c2 gAdd (cV 1) (cC (.int 1)))) (gN 6) tYes (c2 gAdd (cV 5) (cTup (aCons (cV 6) aNil))) (rowsD rs) [] [.sh (.int h), .sh (.int k), own, .sh (.lst (rowsD rs)), x4, x5, x6] M =
      .ok (rowsD (rs.flatMap fun r => (sizes k).map fun s => r ++ [s])) M := by
  have c := J.compL2_flat (vs := [5, 6]) (vs1 := [6]) (g := gN 5) (it1 := iRng2 (cC (.int 1)) (c2 gAdd (cV 1) (cC (.int 1)))) (g1 := gN 6) (f := c2 gAdd (cV 5) (cTup (aCons (cV 6) aNil))) (E := [.sh (.int h), .sh (.int k), own, .sh (.lst (rowsD rs)), x4, x5, x6]) (M := M)
    (fun r : List Int => D.tup (dI r)) (fun r => rowsD ((sizes k).map fun s => r ++ [s])) k rs [] (fun r hx => by
      have l1 : r.length + 1 ≤ sizeMax := by have := hr r hx; unfold sizeMax; omega
      have l0 : 1 ≤ sizeMax := by decide
      have c1 := compL_map (vs := [6]) (g := gN 6) (f := c2 gAdd (cV 5) (cTup (aCons (cV 6) aNil))) (E := [.sh (.int h), .sh (.int k), own, .sh (.lst (rowsD rs)), x4, .sh (.tup (dI r)), .un]) (M := M) D.int (fun s => D.tup (dI (r ++ [s]))) (sizes k) fun s hs => ⟨_, rfl, by simp [wipe, l0, l1]⟩
      refine ⟨[.sh (.int h), .sh (.int k), own, .sh (.lst (rowsD rs)), x4, .sh (.tup (dI r)), .un], dI (sizes k), rfl, ?_, ?_, by simp [sizes], by simp [rowsD, sizes]⟩
      · have l2 : (k + 1 : Int).natAbs ≤ sizeMax := by unfold sizeMax; omega
        have l3 : k ≤ sizeMax := by unfold sizeMax; omega
        have e := sizes_up k
        simp [l2, l3, e, sizeMax]
        try omega
      · rw [c1, rowsD, List.map_map]; rfl) (by
      have : rs.length * k ≤ 400 * 4 := Nat.mul_le_mul hl hk
      rw [List.length_nil]; unfold sizeMax; omega)
  exact c.trans (by rw [List.nil_append, rowsD, List.map_flatMap]; rfl)
def rowsBody : CS := sSeq (sAsg (gN 3) (cComp2 [5, 6] [6] (iSeq (cV 3)) (gN 5) tYes (iRng2 (cC (.int 1)) (c2 gAdd (cV 1) (cC (.int 1)))) (gN 6) tYes (c2 gAdd (cV 5) (cTup (aCons (cV 6) aNil))))) (sExt (rOwn 2) (cV 3))
theorem e_rowsBody {k : Nat} (hk : k ≤ 4) {rs fs : List (List Int)} (hl : rs.length ≤ 400) (hf : fs.length ≤ 3000) (hr : ∀ r ∈ rs, r.length ≤ 10) (h : Int) (x4 x5 x6 : Sl) (M : Mem) :
    rowsBody [.sh (.int h), .sh (.int k), .ow (.lst (rowsD fs)), .sh (.lst (rowsD rs)), x4, x5, x6] M =
      .ok (.nx, [.sh (.int h), .sh (.int k), .ow (.lst (rowsD (fs ++ rs.flatMap fun r => (sizes k).map fun s => r ++ [s]))), .sh (.lst (rowsD (rs.flatMap fun r => (sizes k).map fun s => r ++ [s]))), x4, x5, x6]) M := by
  have c := layer_comp hk hl hr h (.ow (.lst (rowsD fs))) x4 M (x5 := x5) (x6 := x6)
  generalize hz : (rs.flatMap fun r => (sizes k).map fun s => r ++ [s]) = zs at c ⊢
  have hzl : zs.length ≤ 1600 := by
    have e : ∀ ls : List (List Int), (ls.flatMap fun r => (sizes k).map fun s => r ++ [s]).length = ls.length * k := by
      intro ls
      induction ls with
      | nil => simp
      | cons l ls ih => rw [List.flatMap_cons, List.length_append, ih, List.length_map, List.length_cons, Nat.succ_mul]; simp [sizes]; omega
    have : rs.length * k ≤ 400 * 4 := Nat.mul_le_mul hl hk
    rw [← hz, e]; omega
  have l1 : (rowsD fs).length + (rowsD zs).length ≤ sizeMax := by unfold rowsD sizeMax; rw [List.length_map, List.length_map]; omega
  have e2 : rowsD (fs ++ zs) = rowsD fs ++ rowsD zs := List.map_append
  rw [e2]
  simp [rowsBody, c, l1]
theorem rows_shape : F_rows_of = body 7 2 (sSeq (sOwn 2 (cLst aNil)) (sSeq (sAsg (gN 3) (cLst (aCons (cTup aNil) aNil))) (sSeq (sFor (iRng (cV 0)) (gN 4) rowsBody) (sSeq (sFrz 2) (sRet (cV 2)))))) := rfl
theorem e_rows_of (h k : Nat) (hk1 : 1 ≤ k) (hk : k ≤ 4) (hh : h ≤ 6) (hp : k ^ h ≤ 400) (M : Mem) : F_rows_of [.int h, .int k] M = .ok (.lst (rowsD (rowsTo k h))) M := by
  obtain ⟨E', M', h1, rfl, x4, x5, x6, rfl⟩ := forL_run (g := gN 4) (s := rowsBody) (fun i : Nat => D.int (i : Int)) (fun i E M' => M' = M ∧ ∃ x4 x5 x6, E = [.sh (.int h), .sh (.int k), .ow (.lst (rowsD (rowsTo k i))), .sh (.lst (rowsD (layer k i))), x4, x5, x6]) (List.range h) 0
    (fun i x E M' hx ⟨hM, x4, x5, x6, hE⟩ => by
      subst hM hE
      rw [Nat.zero_add]
      have hi : i < h := by
        have := (List.getElem?_eq_some_iff.mp hx).1
        rwa [List.length_range] at this
      have p : k ^ i ≤ k ^ h := Nat.pow_le_pow_right hk1 (by omega)
      have hl : (layer k i).length ≤ 400 := by rw [layer_len]; omega
      have e := e_rowsBody hk (fs := rowsTo k i) hl (by have := rowsTo_len hk1 hp i (by omega); omega) (fun r hr => by have := ((mem_layer i r).mp hr).1; omega) h (.sh (.int x)) x5 x6 M'
      exact ⟨_, _, M', rfl, .inl e, rfl, _, _, _, rfl⟩) [.sh (.int h), .sh (.int k), .ow (.lst []), .sh (.lst [.tup []]), .un, .un, .un] M ⟨rfl, .un, .un, .un, rfl⟩
  rw [← upFrom0] at h1
  rw [List.length_range, Nat.zero_add] at h1
  have l0 : h ≤ sizeMax := by unfold sizeMax; omega
  have l1 : 1 ≤ sizeMax := by decide
  rw [rows_shape]
  simp [l0, l1, h1]
end K82
namespace K82
open PySem J PM PG
theorem e_least_there {row : List Int} {k m : Nat} (hr : RowIn k row) (hk : k ≤ 4) (ne : row ≠ []) (hl : row.length ≤ 6) (hm : 1 ≤ m) (M : Mem) : F_least_there [.tup (dI row), .int m] M = .ok (.int (dueOf m row)) M := by
  have sz : Sz row := ⟨List.length_pos_iff.mpr ne, by omega, fun s hs => by have := hr s hs; omega⟩
  obtain ⟨v, e, h⟩ := e_least_cost row sz m hm M
  rw [← dueOf_eq h]
  simp [F_least_there, e_sized row sz, e]
theorem e_law_due0 {row : List Int} {k m : Nat} (hl : row.length ≤ 6) (hm : 1 ≤ m) (M : Mem) : F__law_least [.tup (dI row), .int m] M = .ok (.int (dueOf m row)) M := by
  obtain ⟨v, e, h⟩ := e_law_least row (by omega) m hm M
  rw [← dueOf_eq h, e]
def gameD (m h k : Nat) (kvs : List (List Key × D)) : D := .obj 3 [.int m, .int h, .lst (dI (sizes k)), .dT kvs]
/-- the game's dict is whole -/
def Led (m h k : Nat) (kvs : List (List Key × D)) : Prop := ∀ row, RowIn k row → row ≠ [] → row.length ≤ h → look kvs (keyI row) = some (.int (dueOf m row))
theorem e_game (m h k : Nat) (hm : 1 ≤ m) (hk1 : 1 ≤ k) (hk : k ≤ 4) (hh : h ≤ 6) (hp : k ^ h ≤ 400) (M : Mem) : ∃ kvs, F_Game___init__ [.loc M.length, .int m, .int h, .int k] (M ++ [.ins 3 []]) = .ok .non (M ++ [.ins 3 [.int m, .int h, .lst (dI (sizes k)), .dT kvs]]) ∧ Led m h k kvs ∧ RDict (dueOf m) kvs := by
  have hl := rowsTo_len hk1 hp h (Nat.le_refl _)
  obtain ⟨kvs, e, r, a⟩ := compDT_rows (vs := [4]) (g := gN 4) (fk := cV 4) (fv := cCall0 (ifN 2 F_least_there) (aCons (cV 4) (aCons (cV 1) aNil))) (E := [.sh (.loc M.length), .sh (.int m), .sh (.int h), .sh (.int k), .un]) (M := M ++ [.ins 3 [.int m, .int h, .lst (dI (sizes k))]])
    (due := dueOf m) (rowsTo k h) [] (fun x hx => by
      obtain ⟨ne, h1, h2⟩ := (mem_rowsTo h x).mp hx
      exact ⟨_, rfl, by simp [wipe], by simp [wipe, e_least_there h2 hk ne (by omega) hm]⟩) (by rw [List.length_nil]; unfold sizeMax; omega) ⟨fun p hp => (nomatch hp)⟩
  refine ⟨kvs, ?_, fun row h1 h2 h3 => r.look (a row (.inl ((mem_rowsTo h row).mpr ⟨h2, h3, h1⟩))), r⟩
  have l2 : (k + 1 : Int).natAbs ≤ sizeMax := by unfold sizeMax; omega
  have l3 : k ≤ sizeMax := by unfold sizeMax; omega
  have l4 : 1 ≤ sizeMax := by decide
  have e1 := sizes_up k
  have e2 := e_rows_of h k hk1 hk hh hp
  have e : compDT [4] (gN 4) tYes (cV 4) (cCall0 (ifN 2 F_least_there) (aCons (cV 4) (aCons (cV 1) aNil))) (rowsD (rowsTo k h)) [] [.sh (.loc M.length), .sh (.int m), .sh (.int h), .sh (.int k), .un] (M ++ [.ins 3 [.int m, .int h, .lst (dI (sizes k))]]) = _ := e
  unfold F_Game___init__
  generalize hf : cCall0 (ifN 2 F_least_there) (aCons (cV 4) (aCons (cV 1) aNil)) = fv at e ⊢
  simp [l2, l3, l4, e1, e2, e]
theorem lowI : ∀ (l : Nat) (is : List Int), lowDs l (dI is) = true
  | l, [] => by simp [lowDs]
  | l, i :: is => by simp [lowDs, lowD]; simpa using lowI l is
theorem lowN (l : Nat) : ∀ (is : List Nat), lowDs l (dN is) = true
  | [] => by simp [lowDs]
  | i :: is => by simp [lowDs, lowD]; simpa using lowN l is
theorem e_spot (row : List Int) (as b : List Nat) (p : Int) (M : Mem) : F_Spot___init__ [.loc M.length, .tup (dI row), .tup (dN as), .tup (dN b), .int p] (M ++ [.ins 2 []]) = .ok .non (M ++ [.ins 2 [.tup (dI row), .tup (dN as), .tup (dN b), .int p]]) := by
  simp [F_Spot___init__]
theorem low_spot (l : Nat) (row : List Int) (as b : List Nat) (p : Int) : lowDs l [.tup (dI row), .tup (dN as), .tup (dN b), .int p] = true := by
  have h1 := lowI l row
  have h2 := lowN l as
  have h3 := lowN l b
  simp [lowDs, lowD, h1, h2, h3]
theorem e_begin (M : Mem) : F_begin [] M = .ok (spotD [] [] [] 0) M := by
  have e := e_spot [] [] [] 0 M
  have l := low_spot M.length [] [] [] 0
  have o := okM_refl M.length M
  simp only [List.map_nil] at e l
  simp [F_begin, e, l, o, spotD]
theorem e_behind_answer (b : List Nat) (h a : Nat) (ha : a ≤ b.length) (hb : b.length ≤ 100) (M : Mem) : F_behind_answer [.tup (dN b), .int h, .int a] M = .ok (.tup (dN (b.take a ++ [(b ++ [h]).getD a 0]))) M := by
  have l1 : min a b.length + 1 ≤ sizeMax := by unfold sizeMax; omega
  have l0 : 1 ≤ sizeMax := by decide
  have c := cut_take b a
  have e2 : dN (b.take a ++ [(b ++ [h]).getD a 0]) = dN (b.take a) ++ [D.int ((b ++ [h]).getD a 0 : Nat)] := by rw [← dN_snoc]
  rw [e2]
  by_cases z : a < b.length
  · have i := ixN_nat b.length a z
    have g : (b ++ [h]).getD a 0 = b[a] := by rw [List.getD_eq_getElem?_getD, List.getElem?_append_left z, List.getElem?_eq_getElem z]; rfl
    rw [g]
    simp [F_behind_answer, c, z, i, l1, l0]
  · have za : a = b.length := by omega
    have g : (b ++ [h]).getD a 0 = h := by rw [List.getD_eq_getElem?_getD, List.getElem?_append_right (by omega), za]; simp
    rw [g]
    simp [F_behind_answer, c, z, l1, l0]
theorem e_behind_spot (row : List Int) (as b : List Nat) (p s : Int) (a : Nat) (ha : a ≤ b.length) (hb : b.length ≤ 100) (hr : row.length ≤ 100) (hs : as.length ≤ 100) (M : Mem) :
    F_Spot_behind [spotD row as b p, .int s, .int a] M = .ok (spotD (row ++ [s]) (as ++ [a]) (nxt (row ++ [s]) b p a).1 (nxt (row ++ [s]) b p a).2) M := by
  have l0 : 1 ≤ sizeMax := by decide
  have l1 : row.length + 1 ≤ sizeMax := by unfold sizeMax; omega
  have l2 : as.length + 1 ≤ sizeMax := by unfold sizeMax; omega
  have hl : (row ++ [s]).length - 1 = row.length := by simp
  unfold nxt
  rw [hl]
  have e1 := e_behind_answer b row.length a ha hb M
  generalize hg : (b ++ [row.length]).getD a 0 = g at e1 ⊢
  have e2 : dI row ++ [D.int s] = dI (row ++ [s]) := by simp
  have e3 : dN as ++ [D.int a] = dN (as ++ [a]) := dN_snoc as a
  have e4 : gIx (.tup (dN (b.take a ++ [g]))) (.int (-1)) = some (.int g) := by
    have : dN (b.take a ++ [g]) = dN (b.take a) ++ [D.int g] := (dN_snoc _ _).symm
    rw [this]
    show (ixN (dN (b.take a) ++ [D.int g]).length (-1)).bind (fun j => (dN (b.take a) ++ [D.int g])[j]?) = _
    have : ixN (dN (b.take a) ++ [D.int g]).length (-1) = some (dN (b.take a)).length := by
      unfold ixN
      rw [if_neg (by decide), if_pos (by rw [List.length_append]; simp; omega)]
      congr 1
      rw [List.length_append]; simp; omega
    rw [this]
    simp
  have e6 : gSum (.tup ((dI (row ++ [s])).drop g)) = some (.int ((row ++ [s]).drop g).sum) := by rw [← List.map_drop]; exact gSum_tup _
  have e5 : cutD (dI (row ++ [s])) (some (g : Int)) none = (dI (row ++ [s])).drop g := cutD_lo
  have e7 := e_spot (row ++ [s]) (as ++ [a]) (b.take a ++ [g]) (p + ((row ++ [s]).drop g).sum) M
  have e8 := low_spot M.length (row ++ [s]) (as ++ [a]) (b.take a ++ [g]) (p + ((row ++ [s]).drop g).sum)
  have o := okM_refl M.length M
  generalize hR : dI (row ++ [s]) = R at *
  generalize hA : dN (as ++ [a]) = A at *
  generalize hB : dN (b.take a ++ [g]) = B at *
  simp [F_Spot_behind, spotD, l0, l1, l2, e1, e2, e3, e4, e5, e6, e7, e8, o, hR, hA, hB, -gIx, -List.map_append]
end K82
namespace K82
open PySem J PM PG
def wIn (r : Fn) : CS := sSeq (sAsg (gN 6) (cMethN 3 2 r (cV 0) (aCons (cMethN 2 3 F_Spot_behind (cV 1) (aCons (cV 3) (aCons (cV 5) aNil))) aNil))) (sIf (tOr (tV (c1 gIsN (cV 4))) (tV (cCall0 (ifN 2 F_is_less) (aCons (cV 6) (aCons (cV 4) aNil))))) (sAsg (gN 4) (cV 6)) sNil)
def wOut (r : Fn) : CS := sSeq (sAsg (gN 4) (cC .non)) (sSeq (sFor (iSeq (cMethN 3 2 F_Game_answers_at (cV 0) (aCons (cV 1) aNil))) (gN 5) (wIn r)) (sAsg (gN 2) (cIf (tV (cCall0 (ifN 2 F_is_less) (aCons (cV 2) (aCons (cV 4) aNil)))) (cV 4) (cV 2))))
theorem worth_shape (n : Nat) : F_Game_worth (n + 1) = body 7 2 (sSeq (sAsg (gN 2) (cIf (tV (c2 gGt (c1 gLen (c1 (gFld 2 0) (cV 1))) (cC (.int 0)))) (cCall0 (ifN 2 F_lowest) (aCons (c1 (gFld 2 3) (cV 1)) (aCons (c2 gIx (c1 (gFld 3 3) (cV 0)) (c1 (gFld 2 0) (cV 1))) aNil))) (cTup (aCons (cC (.int 0)) (aCons (cC (.int 1)) aNil))))) (sSeq (sIf (tV (c2 gLt (c1 gLen (c1 (gFld 2 0) (cV 1))) (c1 (gFld 3 1) (cV 0)))) (sFor (iSeq (c1 (gFld 3 2) (cV 0))) (gN 3) (wOut (F_Game_worth n))) sNil) (sRet (cV 2)))) := rfl
def stepQ (o : Option Q) (t : Q) : Q := match o with | none => t | some q => if more q t = true then t else q
theorem oQ_step (o : Option Q) (t : Q) : oQ (some (stepQ o t)) = match o with | none => pD t | some q => if more q t = true then pD t else pD q := by
  cases o with
  | none => rfl
  | some q =>
    show pD (if more q t = true then t else q) = if more q t = true then pD t else pD q
    split <;> rfl
theorem isNon_pD (q : Q) : isNon (pD q) = false := rfl
theorem view_pD (M : Mem) (q : Q) : view M (pD q) = pD q := rfl
section
variable {m h k : Nat} {kvs : List (List Key × D)} {row : List Int} {as b : List Nat} {p s : Int} {M : Mem}
theorem e_wIn (r : Fn) {fd : D} {o : Option Q} {a : Nat} {x6 : Sl} {t : Q} (ha : a ≤ b.length) (hb : b.length ≤ 100) (hr : row.length ≤ 100) (hs : as.length ≤ 100)
    (e : r [gameD m h k kvs, spotD (row ++ [s]) (as ++ [a]) (nxt (row ++ [s]) b p a).1 (nxt (row ++ [s]) b p a).2] M = .ok (pD t) M) (ht : Sm t) (ho : ∀ q, o = some q → Sm q) :
    wIn r [.sh (gameD m h k kvs), .sh (spotD row as b p), .sh fd, .sh (.int s), .sh (oQ o), .sh (.int a), x6] M = .ok (.nx, [.sh (gameD m h k kvs), .sh (spotD row as b p), .sh fd, .sh (.int s), .sh (oQ (some (stepQ o t))), .sh (.int a), .sh (pD t)]) M := by
  have eb := e_behind_spot row as b p s a ha hb hr hs M
  generalize hsp : spotD (row ++ [s]) (as ++ [a]) (nxt (row ++ [s]) b p a).1 (nxt (row ++ [s]) b p a).2 = sp at e eb
  have v1 : view M (spotD row as b p) = .obj 2 [.tup (dI row), .tup (dN as), .tup (dN b), .int p] := rfl
  have v2 : view M (gameD m h k kvs) = .obj 3 [.int m, .int h, .lst (dI (sizes k)), .dT kvs] := rfl
  rw [oQ_step]
  cases o with
  | none => simp [wIn, v1, v2, eb, e, oQ]
  | some q =>
    have el := e_is_less ht (ho q rfl) M
    by_cases c : more q t = true
    · simp [wIn, v1, v2, eb, e, oQ, el, c, view_pD, isNon_pD]
    · simp [wIn, v1, v2, eb, e, oQ, el, c, view_pD, isNon_pD]
      rfl
theorem e_wLoop (r : Fn) {fd : D} {f : Nat → Q} (hb : b.length ≤ 100) (hr : row.length ≤ 100) (hs : as.length ≤ 100) : ∀ (is : List Nat) (o : Option Q) (x5 x6 : Sl),
    (∀ a ∈ is, a ≤ b.length ∧ Sm (f a) ∧ r [gameD m h k kvs, spotD (row ++ [s]) (as ++ [a]) (nxt (row ++ [s]) b p a).1 (nxt (row ++ [s]) b p a).2] M = .ok (pD (f a)) M) → (∀ q, o = some q → Sm q) →
    ∃ x5' x6', forL (gN 5) (wIn r) (dN is) [.sh (gameD m h k kvs), .sh (spotD row as b p), .sh fd, .sh (.int s), .sh (oQ o), x5, x6] M = .ok (.nx, [.sh (gameD m h k kvs), .sh (spotD row as b p), .sh fd, .sh (.int s), .sh (oQ (minF o (is.map f))), x5', x6']) M
  | [], o, x5, x6, _, _ => ⟨x5, x6, rfl⟩
  | a :: is, o, x5, x6, hi, ho => by
    obtain ⟨h1, h2, h3⟩ := hi a List.mem_cons_self
    have e := e_wIn r (fd := fd) (x6 := x6) h1 hb hr hs h3 h2 ho
    obtain ⟨x5', x6', e2⟩ := e_wLoop r (fd := fd) hb hr hs is (some (stepQ o (f a))) (.sh (.int a)) (.sh (pD (f a))) (fun y hy => hi y (List.mem_cons_of_mem _ hy)) fun q hq => by
      cases hq
      unfold stepQ
      cases o with
      | none => exact h2
      | some q =>
        dsimp only
        split
        · exact h2
        · exact ho q rfl
    refine ⟨x5', x6', ?_⟩
    rw [List.map_cons, minF_cons]
    show (match wIn r [.sh (gameD m h k kvs), .sh (spotD row as b p), .sh fd, .sh (.int s), .sh (oQ o), .sh (.int a), x6] M with | .ok (.nx, E) M => forL (gN 5) (wIn r) (dN is) E M | .ok (.ct, E) M => forL (gN 5) (wIn r) (dN is) E M | .ok (.bk, E) M => .ok (.nx, E) M | r => r) = _
    rw [e]
    exact e2
theorem e_answers (hm : 1 ≤ m) (hm4 : m ≤ 4) (hb : b.length ≤ 100) : F_Game_answers_at [gameD m h k kvs, spotD row as b p] M = .ok (.lst (dN (List.range (min m (b.length + 1))))) M := by
  have v1 : view M (spotD row as b p) = .obj 2 [.tup (dI row), .tup (dN as), .tup (dN b), .int p] := rfl
  have v2 : view M (gameD m h k kvs) = .obj 3 [.int m, .int h, .lst (dI (sizes k)), .dT kvs] := rfl
  have e1 : (min (b.length : Int) ((m : Int) - 1) + 1) = ((min m (b.length + 1) : Nat) : Int) := by omega
  have l1 : min m (b.length + 1) ≤ sizeMax := by unfold sizeMax; omega
  have e2 := upFrom0 (min m (b.length + 1))
  have e3 : ((min m (b.length + 1) : Nat) : Int).toNat = min m (b.length + 1) := by omega
  have e4 : ((min m (b.length + 1) : Nat) : Int).natAbs = min m (b.length + 1) := by omega
  generalize hz : ((min m (b.length + 1) : Nat) : Int) = z at *
  generalize hn : min m (b.length + 1) = n at *
  simp [F_Game_answers_at, v1, v2, e1, e3, e4, l1, e2]
theorem e_wOut (r : Fn) {q0 : Q} {f : Nat → Q} (hq : Sm q0) (hm : 1 ≤ m) (hm4 : m ≤ 4) (hb : b.length ≤ 100) (hr : row.length ≤ 100) (hs : as.length ≤ 100) {x4 x5 x6 : Sl}
    (hi : ∀ a, a < min m (b.length + 1) → Sm (f a) ∧ r [gameD m h k kvs, spotD (row ++ [s]) (as ++ [a]) (nxt (row ++ [s]) b p a).1 (nxt (row ++ [s]) b p a).2] M = .ok (pD (f a)) M) {t : Q} (hmin : minF none ((List.range (min m (b.length + 1))).map f) = some t) (ht : Sm t) :
    ∃ x4' x5' x6', wOut r [.sh (gameD m h k kvs), .sh (spotD row as b p), .sh (pD q0), .sh (.int s), x4, x5, x6] M = .ok (.nx, [.sh (gameD m h k kvs), .sh (spotD row as b p), .sh (pD (if more t q0 = true then t else q0)), .sh (.int s), x4', x5', x6']) M := by
  obtain ⟨x5', x6', e⟩ := e_wLoop r (fd := pD q0) (f := f) hb hr hs (List.range (min m (b.length + 1))) none x5 x6 (fun a ha => by
    have ha := List.mem_range.mp ha
    obtain ⟨h1, h2⟩ := hi a ha
    exact ⟨by omega, h1, h2⟩) (fun q hq => nomatch hq)
  rw [hmin] at e
  have ea := e_answers (h := h) (k := k) (kvs := kvs) (row := row) (as := as) (p := p) (M := M) hm hm4 hb
  have v1 : view M (spotD row as b p) = .obj 2 [.tup (dI row), .tup (dN as), .tup (dN b), .int p] := rfl
  have v2 : view M (gameD m h k kvs) = .obj 3 [.int m, .int h, .lst (dI (sizes k)), .dT kvs] := rfl
  have el := e_is_less hq ht M
  generalize hL : dN (List.range (min m (b.length + 1))) = L at e ea
  refine ⟨.sh (pD t), x5', x6', ?_⟩
  have e : forL (gN 5) (wIn r) L [.sh (gameD m h k kvs), .sh (spotD row as b p), .sh (pD q0), .sh (.int s), .sh .non, x5, x6] M = .ok (.nx, [.sh (gameD m h k kvs), .sh (spotD row as b p), .sh (pD q0), .sh (.int s), .sh (pD t), x5', x6']) M := e
  by_cases c : more t q0 = true
  · simp [wOut, v2, ea, e, el, view_pD, c]
  · simp [wOut, v2, ea, e, el, view_pD, c]
end
end K82
namespace K82
open PySem J PM PG
section
variable {m h k : Nat} {kvs : List (List Key × D)} {M : Mem}
theorem e_wSizes (r : Fn) {row : List Int} {as b : List Nat} {p : Int} {F : Int → Q} : ∀ (ss : List Int) (q0 : Q) (x3 x4 x5 x6 : Sl), Sm q0 →
    (∀ s ∈ ss, Sm (F s) ∧ ∀ q0 x4 x5 x6, Sm q0 → ∃ x4' x5' x6', wOut r [.sh (gameD m h k kvs), .sh (spotD row as b p), .sh (pD q0), .sh (.int s), x4, x5, x6] M = .ok (.nx, [.sh (gameD m h k kvs), .sh (spotD row as b p), .sh (pD (if more (F s) q0 = true then F s else q0)), .sh (.int s), x4', x5', x6']) M) →
    ∃ x3' x4' x5' x6', forL (gN 3) (wOut r) (dI ss) [.sh (gameD m h k kvs), .sh (spotD row as b p), .sh (pD q0), x3, x4, x5, x6] M = .ok (.nx, [.sh (gameD m h k kvs), .sh (spotD row as b p), .sh (pD (maxF q0 (ss.map F))), x3', x4', x5', x6']) M
  | [], q0, x3, x4, x5, x6, _, _ => ⟨x3, x4, x5, x6, rfl⟩
  | s :: ss, q0, x3, x4, x5, x6, hq, hi => by
    obtain ⟨h1, h2⟩ := hi s List.mem_cons_self
    obtain ⟨y4, y5, y6, e⟩ := h2 q0 x4 x5 x6 hq
    have sm : Sm (if more (F s) q0 = true then F s else q0) := by
      split
      · exact h1
      · exact hq
    obtain ⟨z3, z4, z5, z6, e2⟩ := e_wSizes r ss _ (.sh (.int s)) y4 y5 y6 sm fun y hy => hi y (List.mem_cons_of_mem _ hy)
    refine ⟨z3, z4, z5, z6, ?_⟩
    rw [List.map_cons, maxF]
    show (match wOut r [.sh (gameD m h k kvs), .sh (spotD row as b p), .sh (pD q0), .sh (.int s), x4, x5, x6] M with | .ok (.nx, E) M => forL (gN 3) (wOut r) (dI ss) E M | .ok (.ct, E) M => forL (gN 3) (wOut r) (dI ss) E M | .ok (.bk, E) M => .ok (.nx, E) M | r => r) = _
    rw [e]
    exact e2
theorem e_worth (hm : 1 ≤ m) (hm4 : m ≤ 4) (hk : k ≤ 4) (hh : h ≤ 6) (led : Led m h k kvs) : ∀ (n : Nat) (row : List Int) (as b : List Nat) (p : Int), RowIn k row → row.length ≤ h → h - row.length < n → At m row b p → as.length ≤ row.length →
    F_Game_worth n [gameD m h k kvs, spotD row as b p] M = .ok (pD (low (held (dueOf m) m k (h - row.length) (base (dueOf m) row p) row b p))) M
  | 0, _, _, _, _, _, _, hn, _, _ => absurd hn (by omega)
  | n + 1, row, as, b, p, hr, hl, hn, a, hs => by
    have hd := due_dueOf hm
    have sb := a.small hr hk (by omega)
    have smB : Sm (base (dueOf m) row p) := by
      unfold base
      split
      · exact ⟨by decide, by decide, by decide, by decide⟩
      · rename_i ne; exact hd.sm ne a hr hk (by omega)
    have v1 : view M (spotD row as b p) = .obj 2 [.tup (dI row), .tup (dN as), .tup (dN b), .int p] := rfl
    have v2 : view M (gameD m h k kvs) = .obj 3 [.int m, .int h, .lst (dI (sizes k)), .dT kvs] := rfl
    have two : 2 ≤ sizeMax := by decide
    -- the first value
    have first : (cIf (tV (c2 gGt (c1 gLen (c1 (gFld 2 0) (cV 1))) (cC (.int 0)))) (cCall0 (ifN 2 F_lowest) (aCons (c1 (gFld 2 3) (cV 1)) (aCons (c2 gIx (c1 (gFld 3 3) (cV 0)) (c1 (gFld 2 0) (cV 1))) aNil))) (cTup (aCons (cC (.int 0)) (aCons (cC (.int 1)) aNil)))) [.sh (gameD m h k kvs), .sh (spotD row as b p), .un, .un, .un, .un, .un] M = .ok (pD (low (base (dueOf m) row p))) M := by
      by_cases z : row = []
      · subst z
        simp [v1, two, base, pD, low]
      · have lp := List.length_pos_iff.mpr z
        have lk := led row hr z hl
        have kk := keysOf_dI row
        have e := e_lowest (q := (p, dueOf m row)) (hd.sm z a hr hk (by omega)) (by
          have := hd.le z hr.ok a
          have h2 := path_most hr.ok a.choose_spec
          have h3 := sum_most hr
          have h5 : (row.length : Int) * k ≤ 6 * 4 := Int.mul_le_mul (by omega) (by omega) (by omega) (by omega)
          have h6 : 0 ≤ row.sum := (sum_part 0 (pos_of hr.ok)).2.2
          have h7 : (row.length : Int) * row.sum ≤ 6 * 24 := Int.mul_le_mul (by omega) (by omega) h6 (by omega)
          show dueOf m row < 200; omega) M
        have e : F_lowest [.int p, .int (dueOf m row)] M = .ok (pD (low (p, dueOf m row))) M := e
        have b1 : base (dueOf m) row p = (p, dueOf m row) := by unfold base; rw [if_neg z]
        rw [b1]
        simp [v1, v2, z, lp, kk, lk, e]
    by_cases z : row.length < h
    · obtain ⟨n', hn'⟩ : ∃ n', h - row.length = n' + 1 := ⟨h - row.length - 1, by omega⟩
      have g : ∀ s ∈ sizes k, ∀ i, i < min m (b.length + 1) → nxt (row ++ [s]) b p i ∈ nexts m (row ++ [s]) b p := fun s hs i hi => by
        rw [nexts_nxt]; exact List.mem_map_of_mem (List.mem_range.mpr hi)
      have turn : ∀ s ∈ sizes k, Sm (low (ans (dueOf m) m k n' (row ++ [s]) b p)) ∧ ∀ q0 x4 x5 x6, Sm q0 → ∃ x4' x5' x6', wOut (F_Game_worth n) [.sh (gameD m h k kvs), .sh (spotD row as b p), .sh (pD q0), .sh (.int s), x4, x5, x6] M = .ok (.nx, [.sh (gameD m h k kvs), .sh (spotD row as b p), .sh (pD (if more (low (ans (dueOf m) m k n' (row ++ [s]) b p)) q0 = true then low (ans (dueOf m) m k n' (row ++ [s]) b p) else q0)), .sh (.int s), x4', x5', x6']) M := by
        intro s hsz
        have hr' := hr.app hsz
        have hl' : (row ++ [s]).length = row.length + 1 := by rw [List.length_append]; rfl
        have sub : ∀ i, i < min m (b.length + 1) → Sm (held (dueOf m) m k n' ((nxt (row ++ [s]) b p i).2, dueOf m (row ++ [s])) (row ++ [s]) (nxt (row ++ [s]) b p i).1 (nxt (row ++ [s]) b p i).2) := fun i hi => by
          have a' := nexts_at (s := s) a _ (g s hsz i hi)
          exact held_sm hd hm hk n' _ _ _ _ (by rw [hl']; omega) hr' a' (hd.sm (app_ne _ _) a' hr' hk (by omega))
        obtain ⟨hmin, _, _, c, hc, ec⟩ := ans_spec (k := k) hd hm n' (app_ne row s) hr'.ok b p
        have smA : Sm (ans (dueOf m) m k n' (row ++ [s]) b p) := by
          rw [nexts_nxt] at hc
          obtain ⟨i, hi, rfl⟩ := List.mem_map.mp hc
          rw [ec]; exact sub i (List.mem_range.mp hi)
        have hmin2 : minF none ((List.range (min m (b.length + 1))).map fun i => low (held (dueOf m) m k n' ((nxt (row ++ [s]) b p i).2, dueOf m (row ++ [s])) (row ++ [s]) (nxt (row ++ [s]) b p i).1 (nxt (row ++ [s]) b p i).2)) = some (low (ans (dueOf m) m k n' (row ++ [s]) b p)) := by
          have e := minF_low ((nexts m (row ++ [s]) b p).map fun c => held (dueOf m) m k n' (c.2, dueOf m (row ++ [s])) (row ++ [s]) c.1 c.2) none (fun q hq => nomatch hq) fun t ht => by
            obtain ⟨c, _, rfl⟩ := List.mem_map.mp ht
            exact held_pos hd hm n' _ _ _ _ hr'.ok (hd.pos (app_ne _ _) hr'.ok)
          rw [hmin, nexts_nxt, List.map_map, List.map_map] at e
          exact e
        refine ⟨smA.low, fun q0 x4 x5 x6 hq => e_wOut (F_Game_worth n) (f := fun i => low (held (dueOf m) m k n' ((nxt (row ++ [s]) b p i).2, dueOf m (row ++ [s])) (row ++ [s]) (nxt (row ++ [s]) b p i).1 (nxt (row ++ [s]) b p i).2)) hq hm hm4 (by omega) (by omega) (by omega) (fun i hi => ⟨(sub i hi).low, ?_⟩) hmin2 smA.low⟩
        have a' := nexts_at (s := s) a _ (g s hsz i hi)
        have ih := e_worth hm hm4 hk hh led n (row ++ [s]) (as ++ [i]) (nxt (row ++ [s]) b p i).1 (nxt (row ++ [s]) b p i).2 hr' (by omega) (by omega) a' (by rw [hl', List.length_append]; simp; omega)
        rw [ih]
        have b1 : base (dueOf m) (row ++ [s]) (nxt (row ++ [s]) b p i).2 = ((nxt (row ++ [s]) b p i).2, dueOf m (row ++ [s])) := by unfold base; rw [if_neg (app_ne _ _)]
        rw [b1, show h - (row ++ [s]).length = n' by omega]
      obtain ⟨x3', x4', x5', x6', e⟩ := e_wSizes (F_Game_worth n) (F := fun s => low (ans (dueOf m) m k n' (row ++ [s]) b p)) (sizes k) (low (base (dueOf m) row p)) .un .un .un .un smB.low turn
      have em := maxF_low ((sizes k).map fun s => ans (dueOf m) m k n' (row ++ [s]) b p) (base (dueOf m) row p) smB.2.2.1 fun t ht => by
        obtain ⟨s, hsz, rfl⟩ := List.mem_map.mp ht
        exact (ans_spec (k := k) hd hm n' (app_ne row s) (hr.app hsz).ok b p).2.1
      rw [List.map_map] at em
      have em : maxF (low (base (dueOf m) row p)) ((sizes k).map fun s => low (ans (dueOf m) m k n' (row ++ [s]) b p)) = low (held (dueOf m) m k (h - row.length) (base (dueOf m) row p) row b p) := by
        rw [hn', held_succ, ← em]; rfl
      rw [em] at e
      rw [worth_shape]
      generalize hc : (cIf (tV (c2 gGt (c1 gLen (c1 (gFld 2 0) (cV 1))) (cC (.int 0)))) (cCall0 (ifN 2 F_lowest) (aCons (c1 (gFld 2 3) (cV 1)) (aCons (c2 gIx (c1 (gFld 3 3) (cV 0)) (c1 (gFld 2 0) (cV 1))) aNil))) (cTup (aCons (cC (.int 0)) (aCons (cC (.int 1)) aNil)))) = cc at first ⊢
      simp [first, v1, v2, z, e]
    · have h0 : h - row.length = 0 := by omega
      rw [worth_shape, h0]
      generalize hc : (cIf (tV (c2 gGt (c1 gLen (c1 (gFld 2 0) (cV 1))) (cC (.int 0)))) (cCall0 (ifN 2 F_lowest) (aCons (c1 (gFld 2 3) (cV 1)) (aCons (c2 gIx (c1 (gFld 3 3) (cV 0)) (c1 (gFld 2 0) (cV 1))) aNil))) (cTup (aCons (cC (.int 0)) (aCons (cC (.int 1)) aNil)))) = cc at first ⊢
      simp [first, v1, v2, z, held]
end
end K82
namespace K82
open PySem J PM PG
theorem lowR {due : List Int → Int} {l : Nat} : ∀ {kvs : List (List Key × D)}, RDict due kvs → lowT l kvs = true := by
  intro kvs
  induction kvs with
  | nil => intro _; simp [lowT]
  | cons p kvs ih =>
    intro r
    obtain ⟨row, e⟩ := r.all p List.mem_cons_self
    have := ih ⟨fun q hq => r.all q (List.mem_cons_of_mem _ hq)⟩
    subst e
    simp [lowT, lowTP, lowD, this]
theorem e_mkGame (m h k : Nat) (hm : 1 ≤ m) (k1 : 1 ≤ k) (hk : k ≤ 4) (hh : h ≤ 6) (hp : k ^ h ≤ 400) (M : Mem) : ∃ kvs, Led m h k kvs ∧ ∀ (g : CA) (E : J.Env), g E M = .ok [.int m, .int h, .int k] M → cMkN 3 4 F_Game___init__ g E M = .ok (gameD m h k kvs) M := by
  obtain ⟨kvs, e, led, rd⟩ := e_game m h k hm k1 hk hh hp M
  refine ⟨kvs, led, fun g E hg => ?_⟩
  have o := okM_refl M.length M
  have ll : lowDs M.length [.int m, .int h, .lst (dI (sizes k)), .dT kvs] = true := by
    have h1 := lowI M.length (sizes k)
    have h2 := lowR (l := M.length) rd
    simp only [lowDs, lowD, h1, h2]
    rfl
  unfold gameD
  generalize hz : dI (sizes k) = S at *
  simp [hg, e, ll, o]
/-! ## the law's own game -/
theorem len_sub {α : Type} [DecidableEq α] : ∀ {xs ys : List α}, xs.Nodup → (∀ x ∈ xs, x ∈ ys) → xs.length ≤ ys.length
  | [], ys, _, _ => Nat.zero_le _
  | x :: xs, ys, nd, h => by
    obtain ⟨n1, n2⟩ := List.nodup_cons.mp nd
    have hx := h x List.mem_cons_self
    have := len_sub (ys := ys.erase x) n2 fun y hy => by
      have ne : y ≠ x := fun e => n1 (e ▸ hy)
      exact (List.mem_erase_of_ne ne).mpr (h y (List.mem_cons_of_mem _ hy))
    rw [List.length_erase_of_mem hx] at this
    have := List.length_pos_of_mem hx
    rw [List.length_cons]; omega
structure LD (m h k : Nat) (kvs : List (List Key × D)) : Prop where
  rd : RDict (dueOf m) kvs
  nd : (kvs.map (·.1)).Nodup
  sub : ∀ p ∈ kvs, p.1 ∈ (rowsTo k h).map keyI
theorem LD.len {m h k : Nat} {kvs : List (List Key × D)} (x : LD m h k kvs) (k1 : 1 ≤ k) (hh : h ≤ 6) (hp : k ^ h ≤ 400) : kvs.length < sizeMax := by
  have := len_sub x.nd fun y hy => by
    obtain ⟨p, hp, rfl⟩ := List.mem_map.mp hy
    exact x.sub p hp
  have h2 := rowsTo_len k1 hp h (Nat.le_refl _)
  rw [List.length_map, List.length_map] at this
  unfold sizeMax; omega
def gameL (m h k : Nat) : D := .lst [.int m, .int h, .int k, .loc 1]
def LM (c0 : Cell × Mem) (kvs : List (List Key × D)) : Mem := c0.1 :: .dT kvs :: c0.2
section
variable {m h k : Nat} {c0 : Cell × Mem} {kvs : List (List Key × D)}
theorem gl0 (M : Mem) : c2 gIx (cC (gameL m h k)) (cC (.int 0)) [] M = .ok (.int m) M := rfl
theorem e_due {row : List Int} (hm : 1 ≤ m) (k1 : 1 ≤ k) (hh : h ≤ 6) (hp : k ^ h ≤ 400) (hr : RowIn k row) (ne : row ≠ []) (hl : row.length ≤ h) (x : LD m h k kvs) :
    ∃ kvs', F__law_due [gameL m h k, .tup (dI row)] (LM c0 kvs) = .ok (.int (dueOf m row)) (LM c0 kvs') ∧ LD m h k kvs' := by
  have lt := x.len k1 hh hp
  have v1 : ∀ kvs, view (LM c0 kvs) (.loc 1) = .dT kvs := fun kvs => rfl
  have ni : gNotIn (.tup (dI row)) (.dT kvs) = some (.bl (!(kvs.any fun kv => decide (kv.1 = keyI row)))) := by
    show (((keysOf (dI row)).map fun ks => D.bl (kvs.any fun kv => decide (kv.1 = ks)))).bind gNot = _
    rw [keysOf_dI]; rfl
  have ix : ∀ kvs, gIx (.dT kvs) (.tup (dI row)) = look kvs (keyI row) := fun kvs => by
    show (keysOf (dI row)).bind (look kvs) = _
    rw [keysOf_dI]; rfl
  have i3 : gIx (gameL m h k) (.int 3) = some (.loc 1) := by
    show (ixN 4 3).bind (fun j => [D.int m, .int h, .int k, .loc 1][j]?) = _
    simp [ixN]
  have i0 : gIx (gameL m h k) (.int 0) = some (.int m) := by
    show (ixN 4 0).bind (fun j => [D.int m, .int h, .int k, .loc 1][j]?) = _
    simp [ixN]
  have vg : ∀ M, view M (gameL m h k) = gameL m h k := fun M => rfl
  have vt : ∀ M, view M (.tup (dI row)) = .tup (dI row) := fun M => rfl
  cases q : kvs.any fun kv => decide (kv.1 = keyI row) with
  | true =>
    refine ⟨kvs, ?_, x⟩
    rw [q] at ni
    have lk := x.rd.look q
    generalize hR : dI row = R at *
    simp [F__law_due, vg, vt, i3, v1, ni, ix, lk, -gIx]
  | false =>
    refine ⟨put kvs (keyI row) (.int (dueOf m row)), ?_, x.rd.put row, put_nodup x.nd, fun p hp => ?_⟩
    · rw [q] at ni
      have el := e_law_due0 (row := row) (k := k) (by omega) hm (LM c0 kvs)
      have lk := look_put (kvs := kvs) (k := keyI row) (d := D.int (dueOf m row))
      have kp : kPut (.tup (dI row)) (.int (dueOf m row)) (.dT kvs) = some (.dT (put kvs (keyI row) (.int (dueOf m row)))) := by
        show (if kvs.length < sizeMax then (keysOf (dI row)).map fun ks => Cell.dT (put kvs ks (.int (dueOf m row))) else none) = _
        rw [if_pos lt, keysOf_dI]; rfl
      have st : (LM c0 kvs).set 1 (.dT (put kvs (keyI row) (.int (dueOf m row)))) = LM c0 (put kvs (keyI row) (.int (dueOf m row))) := rfl
      have gt : (LM c0 kvs)[1]? = some (.dT kvs) := rfl
      generalize hR : dI row = R at *
      generalize hL : LM c0 (put kvs (keyI row) (.int (dueOf m row))) = L at *
      have v1' : view L (.loc 1) = .dT (put kvs (keyI row) (.int (dueOf m row))) := by rw [← hL]; exact v1 _
      simp [F__law_due, vg, vt, i3, i0, v1, ni, el, kp, gt, st, v1', ix, lk, -gIx, -kPut]
    · rcases mem_put hp with e | e
      · rw [e]; exact List.mem_map_of_mem ((mem_rowsTo h row).mpr ⟨ne, hl, hr⟩)
      · exact x.sub p e
end
end K82
namespace K82
open PySem J PM PG
def aIn (r : Fn) : CS := sSeq (sAsg (gN 8) (cCall0 (ifN 4 r) (aCons (cV 0) (aCons (cV 1) (aCons (c2 gAdd (cSl (cV 2) oNone (oSome (cV 6))) (cTup (aCons (cV 7) aNil))) (aCons (c2 gAdd (cV 3) (c1 gSum (cSl (cV 1) (oSome (cV 7)) oNone))) aNil)))))) (sIf (tOr (tV (c1 gIsN (cV 4))) (tV (cCall0 (ifN 2 F__law_more) (aCons (cV 4) (aCons (cV 8) aNil))))) (sAsg (gN 4) (cV 8)) sNil)
theorem answered_shape (r : Fn) : F__law_answered r = body 9 4 (sSeq (sAsg (gN 4) (cC .non)) (sSeq (sAsg (gN 5) (c2 gSub (c1 gLen (cV 1)) (cC (.int 1)))) (sSeq (sFor (iEnum (cSl (c2 gAdd (cV 2) (cTup (aCons (cV 5) aNil))) oNone (oSome (c2 gIx (cV 0) (cC (.int 0)))))) (gT [(gN 6), (gN 7)]) (aIn r)) (sRet (cV 4))))) := rfl
def hIn (r : Fn) : CS := sSeq (sAsg (gN 6) (cCall0 (ifN 4 (F__law_answered r)) (aCons (cV 0) (aCons (c2 gAdd (cV 1) (cTup (aCons (cV 5) aNil))) (aCons (cV 2) (aCons (cV 3) aNil)))))) (sIf (tV (cCall0 (ifN 2 F__law_more) (aCons (cV 6) (aCons (cV 4) aNil)))) (sAsg (gN 4) (cV 6)) sNil)
theorem held_shape (n : Nat) : F__law_held (n + 1) = body 7 4 (sSeq (sAsg (gN 4) (cTup (aCons (cV 3) (aCons (cCall0 (ifN 2 F__law_due) (aCons (cV 0) (aCons (cV 1) aNil))) aNil)))) (sSeq (sIf (tV (c2 gLt (c1 gLen (cV 1)) (c2 gIx (cV 0) (cC (.int 1))))) (sFor (iRng2 (cC (.int 1)) (c2 gAdd (c2 gIx (cV 0) (cC (.int 2))) (cC (.int 1)))) (gN 5) (hIn (F__law_held n))) sNil) (sRet (cV 4)))) := rfl
theorem gEl {m h k : Nat} : gIx (gameL m h k) (.int 0) = some (.int m) ∧ gIx (gameL m h k) (.int 1) = some (.int h) ∧ gIx (gameL m h k) (.int 2) = some (.int k) := by
  refine ⟨?_, ?_, ?_⟩
  · show (ixN 4 0).bind (fun j => [D.int m, .int h, .int k, .loc 1][j]?) = _
    simp [ixN]
  · show (ixN 4 1).bind (fun j => [D.int m, .int h, .int k, .loc 1][j]?) = _
    simp [ixN]
  · show (ixN 4 2).bind (fun j => [D.int m, .int h, .int k, .loc 1][j]?) = _
    simp [ixN]
theorem view_gl {m h k : Nat} (M : Mem) : view M (gameL m h k) = gameL m h k := rfl
section
variable {m h k : Nat} {c0 : Cell × Mem}
/-- what a walk down gives: t, the dict ever right -/
def Gives (m h k : Nat) (c0 : Cell × Mem) (F : Mem → J.R D) (t : Q) : Prop := ∀ kvs, LD m h k kvs → ∃ kvs', F (LM c0 kvs) = .ok (pD t) (LM c0 kvs') ∧ LD m h k kvs'
theorem e_aIn (r : Fn) {row : List Int} {b : List Nat} {p : Int} {o : Option Q} {a g : Nat} {x5 x8 : Sl} {t : Q} (hb : b.length ≤ 100)
    (e : Gives m h k c0 (r [gameL m h k, .tup (dI row), .tup (dN (b.take a ++ [g])), .int (p + (row.drop g).sum)]) t) (ht : Sm t) (ho : ∀ q, o = some q → Sm q) {kvs : List (List Key × D)} (x : LD m h k kvs) :
    ∃ kvs', aIn r [.sh (gameL m h k), .sh (.tup (dI row)), .sh (.tup (dN b)), .sh (.int p), .sh (oQ o), x5, .sh (.int a), .sh (.int g), x8] (LM c0 kvs) = .ok (.nx, [.sh (gameL m h k), .sh (.tup (dI row)), .sh (.tup (dN b)), .sh (.int p), .sh (oQ (some (stepQ o t))), x5, .sh (.int a), .sh (.int g), .sh (pD t)]) (LM c0 kvs') ∧ LD m h k kvs' := by
  obtain ⟨kvs', e, x'⟩ := e kvs x
  refine ⟨kvs', ?_, x'⟩
  have l0 : 1 ≤ sizeMax := by decide
  have l1 : min a b.length + 1 ≤ sizeMax := by unfold sizeMax; omega
  have c := cut_take b a
  have e2 : dN (b.take a) ++ [D.int g] = dN (b.take a ++ [g]) := dN_snoc _ _
  have e5 : cutD (dI row) (some (g : Int)) none = (dI row).drop g := cutD_lo
  have e6 : gSum (.tup ((dI row).drop g)) = some (.int (row.drop g).sum) := by rw [← List.map_drop]; exact gSum_tup _
  have lt : (dN (b.take a)).length = min a b.length := by simp
  generalize hR : dI row = R at *
  generalize hB : dN (b.take a ++ [g]) = B at *
  generalize hT : dN (b.take a) = T at *
  generalize hM : LM c0 kvs' = M' at *
  rw [oQ_step]
  cases o with
  | none => simp [aIn, view_gl, c, e2, e5, e6, e, oQ, l0, l1, lt, -List.map_append]
  | some q =>
    have el := e_law_more (ho q rfl) ht M'
    by_cases z : more q t = true
    · simp [aIn, view_gl, c, e2, e5, e6, e, oQ, l0, l1, lt, el, z, view_pD, isNon_pD, -List.map_append]
    · simp [aIn, view_gl, c, e2, e5, e6, e, oQ, l0, l1, lt, el, z, view_pD, isNon_pD, -List.map_append]
      rfl
theorem e_aLoop (r : Fn) {row : List Int} {b : List Nat} {p : Int} {x5 : Sl} {el : Nat → Nat} {f : Nat → Q} (hb : b.length ≤ 100) : ∀ (is : List Nat) (o : Option Q) (x6 x7 x8 : Sl) (kvs : List (List Key × D)), LD m h k kvs →
    (∀ a ∈ is, Sm (f a) ∧ Gives m h k c0 (r [gameL m h k, .tup (dI row), .tup (dN (b.take a ++ [el a])), .int (p + (row.drop (el a)).sum)]) (f a)) → (∀ q, o = some q → Sm q) →
    ∃ x6' x7' x8' kvs', forL (gT [gN 6, gN 7]) (aIn r) (is.map fun a : Nat => D.tup [.int (a : Int), .int (el a : Int)]) [.sh (gameL m h k), .sh (.tup (dI row)), .sh (.tup (dN b)), .sh (.int p), .sh (oQ o), x5, x6, x7, x8] (LM c0 kvs) =
      .ok (.nx, [.sh (gameL m h k), .sh (.tup (dI row)), .sh (.tup (dN b)), .sh (.int p), .sh (oQ (minF o (is.map f))), x5, x6', x7', x8']) (LM c0 kvs') ∧ LD m h k kvs'
  | [], o, x6, x7, x8, kvs, x, _, _ => ⟨x6, x7, x8, kvs, rfl, x⟩
  | a :: is, o, x6, x7, x8, kvs, x, hi, ho => by
    obtain ⟨h1, h2⟩ := hi a List.mem_cons_self
    obtain ⟨kvs1, e, x1⟩ := e_aIn (x5 := x5) (x8 := x8) r hb h2 h1 ho x
    obtain ⟨y6, y7, y8, kvs2, e2, x2⟩ := e_aLoop r (x5 := x5) (el := el) (f := f) hb is (some (stepQ o (f a))) (.sh (.int a)) (.sh (.int (el a))) (.sh (pD (f a))) kvs1 x1 (fun y hy => hi y (List.mem_cons_of_mem _ hy)) fun q hq => by
      cases hq
      unfold stepQ
      cases o with
      | none => exact h1
      | some q =>
        dsimp only
        split
        · exact h1
        · exact ho q rfl
    refine ⟨y6, y7, y8, kvs2, ?_, x2⟩
    rw [List.map_cons, List.map_cons, minF_cons]
    show (match aIn r [.sh (gameL m h k), .sh (.tup (dI row)), .sh (.tup (dN b)), .sh (.int p), .sh (oQ o), x5, .sh (.int a), .sh (.int (el a)), x8] (LM c0 kvs) with | .ok (.nx, E) M => forL (gT [gN 6, gN 7]) (aIn r) (is.map fun a : Nat => D.tup [.int (a : Int), .int (el a : Int)]) E M | .ok (.ct, E) M => forL (gT [gN 6, gN 7]) (aIn r) (is.map fun a : Nat => D.tup [.int (a : Int), .int (el a : Int)]) E M | .ok (.bk, E) M => .ok (.nx, E) M | r => r) = _
    rw [e]
    exact e2
theorem enum_el (b : List Nat) (x m : Nat) : pairUp (upFrom 0 ((b ++ [x]).take m).length) (dN ((b ++ [x]).take m)) = (List.range (min m (b.length + 1))).map fun a : Nat => D.tup [.int (a : Int), .int ((b ++ [x]).getD a 0 : Nat)] := by
  rw [pair_enum]
  have hl : ((b ++ [x]).take m).length = min m (b.length + 1) := by simp
  apply List.ext_getElem
  · simp
  · intro i h1 h2
    have hi : i < min m (b.length + 1) := by simpa using h2
    have : (b ++ [x]).getD i 0 = (b ++ [x])[i]'(by simp; omega) := by
      rw [List.getD_eq_getElem?_getD, List.getElem?_eq_getElem (by simp; omega)]; rfl
    simp [this, -List.getD_eq_getElem?_getD]
theorem e_answered (r : Fn) {row : List Int} {b : List Nat} {p : Int} {f : Nat → Q} {t : Q} (hb : b.length ≤ 100) (ne : row ≠ []) (hmin : minF none ((List.range (min m (b.length + 1))).map f) = some t)
    (hi : ∀ a, a < min m (b.length + 1) → Sm (f a) ∧ Gives m h k c0 (r [gameL m h k, .tup (dI row), .tup (dN (nxt row b p a).1), .int (nxt row b p a).2]) (f a)) :
    Gives m h k c0 (F__law_answered r [gameL m h k, .tup (dI row), .tup (dN b), .int p]) t := by
  intro kvs x
  obtain ⟨x6, x7, x8, kvs', e, x'⟩ := e_aLoop r (row := row) (p := p) (x5 := .sh (.int ((row.length : Int) - 1))) (el := fun a => (b ++ [row.length - 1]).getD a 0) (f := f) hb (List.range (min m (b.length + 1))) none .un .un .un kvs x (fun a ha => hi a (List.mem_range.mp ha)) fun q hq => nomatch hq
  refine ⟨kvs', ?_, x'⟩
  rw [hmin] at e
  have lp := List.length_pos_iff.mpr ne
  rw [answered_shape]
  have l0 : 1 ≤ sizeMax := by decide
  have l1 : b.length + 1 ≤ sizeMax := by unfold sizeMax; omega
  have e1 : (row.length : Int) - 1 = ((row.length - 1 : Nat) : Int) := by omega
  have e2 : dN b ++ [D.int ((row.length - 1 : Nat) : Int)] = dN (b ++ [row.length - 1]) := dN_snoc _ _
  have e3 := cut_take (b ++ [row.length - 1]) m
  have e4 := enum_el b (row.length - 1) m
  have e5 : (dN ((b ++ [row.length - 1]).take m)).length = ((b ++ [row.length - 1]).take m).length := by simp
  obtain ⟨g0, g1, g2⟩ := gEl (m := m) (h := h) (k := k)
  rw [← e4] at e
  rw [← e5] at e
  rw [e1] at e
  have lr : (dI row).length = row.length := by simp
  have lb : (dN b).length = b.length := by simp
  generalize hR : dI row = R at *
  generalize hB : dN b = B at *
  generalize hX : dN (b ++ [row.length - 1]) = X at *
  generalize hT : dN ((b ++ [row.length - 1]).take m) = T at *
  have e : forL (gT [gN 6, gN 7]) (aIn r) (pairUp (upFrom 0 T.length) T) [.sh (gameL m h k), .sh (.tup R), .sh (.tup B), .sh (.int p), .sh .non, .sh (.int ((row.length - 1 : Nat) : Int)), .un, .un, .un] (LM c0 kvs) = .ok (.nx, [.sh (gameL m h k), .sh (.tup R), .sh (.tup B), .sh (.int p), .sh (pD t), .sh (.int ((row.length - 1 : Nat) : Int)), x6, x7, x8]) (LM c0 kvs') := e
  have lr2 : R.length = (row.length - 1) + 1 := by omega

  simp [lr2, lb, l0, l1, e2, e3, g0, view_gl, e, -gIx]
end
end K82
namespace K82
open PySem J PM PG
section
variable {m h k : Nat} {c0 : Cell × Mem}
theorem e_hIn (r : Fn) {row : List Int} {b : List Nat} {p s : Int} {q0 t : Q} {x6 : Sl} (hl : row.length ≤ 100)
    (e : Gives m h k c0 (F__law_answered r [gameL m h k, .tup (dI (row ++ [s])), .tup (dN b), .int p]) t) (ht : Sm t) (hq : Sm q0) {kvs : List (List Key × D)} (x : LD m h k kvs) :
    ∃ kvs', hIn r [.sh (gameL m h k), .sh (.tup (dI row)), .sh (.tup (dN b)), .sh (.int p), .sh (pD q0), .sh (.int s), x6] (LM c0 kvs) = .ok (.nx, [.sh (gameL m h k), .sh (.tup (dI row)), .sh (.tup (dN b)), .sh (.int p), .sh (pD (if more t q0 = true then t else q0)), .sh (.int s), .sh (pD t)]) (LM c0 kvs') ∧ LD m h k kvs' := by
  obtain ⟨kvs', e, x'⟩ := e kvs x
  refine ⟨kvs', ?_, x'⟩
  have l0 : 1 ≤ sizeMax := by decide
  have l1 : row.length + 1 ≤ sizeMax := by unfold sizeMax; omega
  have e2 : dI row ++ [D.int s] = dI (row ++ [s]) := by simp
  have lr : (dI row).length = row.length := by simp
  have el := e_law_more ht hq (LM c0 kvs')
  generalize hR : dI (row ++ [s]) = R at *
  generalize hR1 : dI row = R1 at *
  generalize hB : dN b = B at *
  generalize hM : LM c0 kvs' = M' at *
  by_cases z : more t q0 = true
  · simp [hIn, view_gl, e2, e, l0, l1, lr, el, z, view_pD]
  · simp [hIn, view_gl, e2, e, l0, l1, lr, el, z, view_pD]
theorem e_hLoop (r : Fn) {row : List Int} {b : List Nat} {p : Int} {F : Int → Q} (hl : row.length ≤ 100) : ∀ (ss : List Int) (q0 : Q) (x5 x6 : Sl) (kvs : List (List Key × D)), Sm q0 → LD m h k kvs →
    (∀ s ∈ ss, Sm (F s) ∧ Gives m h k c0 (F__law_answered r [gameL m h k, .tup (dI (row ++ [s])), .tup (dN b), .int p]) (F s)) →
    ∃ x5' x6' kvs', forL (gN 5) (hIn r) (dI ss) [.sh (gameL m h k), .sh (.tup (dI row)), .sh (.tup (dN b)), .sh (.int p), .sh (pD q0), x5, x6] (LM c0 kvs) = .ok (.nx, [.sh (gameL m h k), .sh (.tup (dI row)), .sh (.tup (dN b)), .sh (.int p), .sh (pD (maxF q0 (ss.map F))), x5', x6']) (LM c0 kvs') ∧ LD m h k kvs'
  | [], q0, x5, x6, kvs, hq, x, _ => ⟨x5, x6, kvs, rfl, x⟩
  | s :: ss, q0, x5, x6, kvs, hq, x, hi => by
    obtain ⟨h1, h2⟩ := hi s List.mem_cons_self
    obtain ⟨kvs1, e, x1⟩ := e_hIn r (q0 := q0) (x6 := x6) hl h2 h1 hq x
    have sm : Sm (if more (F s) q0 = true then F s else q0) := by
      split
      · exact h1
      · exact hq
    obtain ⟨z5, z6, kvs2, e2, x2⟩ := e_hLoop r hl ss _ (.sh (.int s)) (.sh (pD (F s))) kvs1 sm x1 fun y hy => hi y (List.mem_cons_of_mem _ hy)
    refine ⟨z5, z6, kvs2, ?_, x2⟩
    rw [List.map_cons, maxF]
    show (match hIn r [.sh (gameL m h k), .sh (.tup (dI row)), .sh (.tup (dN b)), .sh (.int p), .sh (pD q0), .sh (.int s), x6] (LM c0 kvs) with | .ok (.nx, E) M => forL (gN 5) (hIn r) (dI ss) E M | .ok (.ct, E) M => forL (gN 5) (hIn r) (dI ss) E M | .ok (.bk, E) M => .ok (.nx, E) M | r => r) = _
    rw [e]
    exact e2
/-- the law's value of a stand -/
theorem e_held (hm : 1 ≤ m) (k1 : 1 ≤ k) (hk : k ≤ 4) (hh : h ≤ 6) (hp : k ^ h ≤ 400) : ∀ (n : Nat) (row : List Int) (b : List Nat) (p : Int), RowIn k row → row ≠ [] → row.length ≤ h → h - row.length < n → At m row b p →
    Gives m h k c0 (F__law_held n [gameL m h k, .tup (dI row), .tup (dN b), .int p]) (held (dueOf m) m k (h - row.length) (p, dueOf m row) row b p)
  | 0, _, _, _, _, _, _, hn, _ => absurd hn (by omega)
  | n + 1, row, b, p, hr, ne, hl, hn, a => by
    intro kvs x
    have hd := due_dueOf hm
    have sb := a.small hr hk (by omega)
    have smB : Sm (p, dueOf m row) := hd.sm ne a hr hk (by omega)
    obtain ⟨kvs1, ed, x1⟩ := e_due (c0 := c0) hm k1 hh hp hr ne hl x
    have l2 : 2 ≤ sizeMax := by decide
    obtain ⟨g0, g1, g2⟩ := gEl (m := m) (h := h) (k := k)
    have first : (cTup (aCons (cV 3) (aCons (cCall0 (ifN 2 F__law_due) (aCons (cV 0) (aCons (cV 1) aNil))) aNil))) [.sh (gameL m h k), .sh (.tup (dI row)), .sh (.tup (dN b)), .sh (.int p), .un, .un, .un] (LM c0 kvs) = .ok (pD (p, dueOf m row)) (LM c0 kvs1) := by
      simp [ed, l2, pD]
    have lr : (dI row).length = row.length := by simp
    by_cases z : row.length < h
    · obtain ⟨n', hn'⟩ : ∃ n', h - row.length = n' + 1 := ⟨h - row.length - 1, by omega⟩
      have turn : ∀ s ∈ sizes k, Sm (ans (dueOf m) m k n' (row ++ [s]) b p) ∧ Gives m h k c0 (F__law_answered (F__law_held n) [gameL m h k, .tup (dI (row ++ [s])), .tup (dN b), .int p]) (ans (dueOf m) m k n' (row ++ [s]) b p) := by
        intro s hsz
        have hr' := hr.app hsz
        have hl' : (row ++ [s]).length = row.length + 1 := by rw [List.length_append]; rfl
        have g : ∀ i, i < min m (b.length + 1) → nxt (row ++ [s]) b p i ∈ nexts m (row ++ [s]) b p := fun i hi => by
          rw [nexts_nxt]; exact List.mem_map_of_mem (List.mem_range.mpr hi)
        have sub : ∀ i, i < min m (b.length + 1) → Sm (held (dueOf m) m k n' ((nxt (row ++ [s]) b p i).2, dueOf m (row ++ [s])) (row ++ [s]) (nxt (row ++ [s]) b p i).1 (nxt (row ++ [s]) b p i).2) := fun i hi => by
          have a' := nexts_at (s := s) a _ (g i hi)
          exact held_sm hd hm hk n' _ _ _ _ (by rw [hl']; omega) hr' a' (hd.sm (app_ne _ _) a' hr' hk (by omega))
        obtain ⟨hmin, _, _, c, hc, ec⟩ := ans_spec (k := k) hd hm n' (app_ne row s) hr'.ok b p
        have smA : Sm (ans (dueOf m) m k n' (row ++ [s]) b p) := by
          rw [nexts_nxt] at hc
          obtain ⟨i, hi, rfl⟩ := List.mem_map.mp hc
          rw [ec]; exact sub i (List.mem_range.mp hi)
        rw [nexts_nxt, List.map_map] at hmin
        refine ⟨smA, e_answered (F__law_held n) (by omega) (app_ne _ _) hmin fun i hi => ⟨sub i hi, ?_⟩⟩
        have a' := nexts_at (s := s) a _ (g i hi)
        have ih := e_held hm k1 hk hh hp n (row ++ [s]) (nxt (row ++ [s]) b p i).1 (nxt (row ++ [s]) b p i).2 hr' (app_ne _ _) (by omega) (by omega) a'
        rw [show h - (row ++ [s]).length = n' by omega] at ih
        exact ih
      obtain ⟨x5', x6', kvs2, e, x2⟩ := e_hLoop (F__law_held n) (F := fun s => ans (dueOf m) m k n' (row ++ [s]) b p) (by omega) (sizes k) (p, dueOf m row) .un .un kvs1 smB x1 turn
      rw [← held_succ, ← hn'] at e
      refine ⟨kvs2, ?_, x2⟩
      rw [held_shape]
      have l3 : (k : Int).natAbs + 1 ≤ sizeMax := by unfold sizeMax; omega
      have l4 : (k + 1 : Int).natAbs ≤ sizeMax := by unfold sizeMax; omega
      have l5 : k ≤ sizeMax := by unfold sizeMax; omega
      have l6 : 1 ≤ sizeMax := by decide
      have es := sizes_up k
      generalize hc : (cTup (aCons (cV 3) (aCons (cCall0 (ifN 2 F__law_due) (aCons (cV 0) (aCons (cV 1) aNil))) aNil))) = cc at first ⊢
      generalize hR : dI row = R at *
      simp [first, view_gl, g1, g2, lr, z, l4, l5, l6, es, e, -gIx]
    · have h0 : h - row.length = 0 := by omega
      refine ⟨kvs1, ?_, x1⟩
      rw [held_shape, h0]
      generalize hc : (cTup (aCons (cV 3) (aCons (cCall0 (ifN 2 F__law_due) (aCons (cV 0) (aCons (cV 1) aNil))) aNil))) = cc at first ⊢
      generalize hR : dI row = R at *
      simp [first, view_gl, g1, lr, z, held, -gIx]
end
end K82
namespace K82
open PySem J PM PG
abbrev lwIn : CS := sSeq (sIf (tV (c2 gEq (cV 3) (cC (.int 0)))) sBreak sNil) (sPar 2 3 (aCons (cV 3) (aCons (c2 gMod (c1 gInt (cV 2)) (cV 3)) aNil)))
theorem e_lw0 (M : Mem) (s0 x1 : Sl) (n : Nat) (a : Int) (x : Nat) : forL (gN 1) lwIn (upFrom a (n + 1)) [s0, x1, .sh (.int x), .sh (.int 0)] M = .ok (.nx, [s0, .sh (.int a), .sh (.int x), .sh (.int 0)]) M := by
  rw [upFrom, forL]
  simp [lwIn]
theorem e_lwS (M : Mem) (s0 x1 : Sl) (n : Nat) (a : Int) (x y : Nat) (z : y ≠ 0) : forL (gN 1) lwIn (upFrom a (n + 1)) [s0, x1, .sh (.int x), .sh (.int y)] M = forL (gN 1) lwIn (upFrom (a + 1) n) [s0, .sh (.int a), .sh (.int y), .sh (.int ((x % y : Nat) : Int))] M := by
  rw [upFrom, forL]
  have hy : (0 : Int) < y := by omega
  have hz : ¬ ((y : Int) = 0) := by omega
  have e := gMod_int (x : Int) (y : Int) hy
  rw [← Int.natCast_emod] at e
  have t : lwIn [s0, .sh (.int a), .sh (.int x), .sh (.int y)] M = .ok (.nx, [s0, .sh (.int a), .sh (.int y), .sh (.int ((x % y : Nat) : Int))]) M := by
    simp only [lwIn, sSeq, sIf, tV, c2, cV, cC]
    simp [hz, z, e]
  show (match lwIn [s0, .sh (.int a), .sh (.int x), .sh (.int y)] M with | .ok (.nx, E) M => forL (gN 1) lwIn (upFrom (a + 1) n) E M | .ok (.ct, E) M => forL (gN 1) lwIn (upFrom (a + 1) n) E M | .ok (.bk, E) M => .ok (.nx, E) M | r => r) = _
  rw [t]
theorem e_lwLoop (M : Mem) (s0 : Sl) : ∀ (j n : Nat) (a : Int) (x y : Nat) (x1 : Sl), y < 2 ^ j → 2 * j < n → ∃ x1', forL (gN 1) lwIn (upFrom a n) [s0, x1, .sh (.int x), .sh (.int y)] M = .ok (.nx, [s0, x1', .sh (.int (Nat.gcd x y : Nat)), .sh (.int 0)]) M
  | 0, n, a, x, y, x1, h, hn => by
    obtain ⟨n', rfl⟩ : ∃ n', n = n' + 1 := ⟨n - 1, by omega⟩
    have : y = 0 := by simpa using h
    subst this
    rw [Nat.gcd_zero_right]; exact ⟨_, e_lw0 M s0 x1 n' a x⟩
  | j + 1, n, a, x, y, x1, h, hn => by
    obtain ⟨n', rfl⟩ : ∃ n', n = n' + 1 + 1 := ⟨n - 2, by omega⟩
    by_cases z : y = 0
    · subst z
      rw [Nat.gcd_zero_right]; exact ⟨_, e_lw0 M s0 x1 _ a x⟩
    · rw [e_lwS M s0 x1 _ a x y z, ← gcd_step x y]
      by_cases z2 : x % y = 0
      · rw [z2, Nat.gcd_zero_right]; exact ⟨_, e_lw0 M s0 _ _ _ y⟩
      · have lt := Nat.mod_lt x (show 0 < y by omega)
        rw [e_lwS M s0 _ _ _ _ _ z2, ← gcd_step y (x % y)]
        exact e_lwLoop M s0 j n' _ _ _ _ (mod_half z2 lt h) (by omega)
theorem e_law_lowest {q : Q} (h0 : 0 ≤ q.1) (h3 : 0 < q.2) (h4 : q.2 < 1073741824) (M : Mem) : F__law_lowest [pD q] M = .ok (pD (low q)) M := by
  obtain ⟨a, b⟩ := q
  dsimp only at h0 h3 h4
  obtain ⟨x, rfl⟩ := Int.eq_ofNat_of_zero_le h0
  obtain ⟨y, rfl⟩ := Int.eq_ofNat_of_zero_le (show 0 ≤ b by omega)
  have g0 : 0 < Nat.gcd x y := Nat.gcd_pos_of_pos_right _ (by omega)
  have g1 : Nat.gcd x y ≤ y := Nat.gcd_le_right _ (by omega)
  have d1 := gDiv_int (x : Int) (Nat.gcd x y : Nat) (by omega) (by omega)
  have d2 := gDiv_int (y : Int) (Nat.gcd x y : Nat) (by omega) (by omega)
  have two : 2 ≤ sizeMax := by decide
  have l4 : 400 ≤ sizeMax := by decide
  obtain ⟨x1', e⟩ := e_lwLoop M (.sh (pD ((x : Int), (y : Int)))) 30 400 0 x y .un (Nat.lt_of_lt_of_le (show y < 1073741824 by omega) (by decide)) (by decide)
  generalize hz : lwIn = LW at e
  have sh : F__law_lowest = body 4 1 (sSeq (sAsg (gT [(gN 2), (gN 3)]) (cV 0)) (sSeq (sFor (iRng (cC (.int 400))) (gN 1) LW) (sRet (cTup (aCons (c2 gDiv (c2 gIx (cV 0) (cC (.int 0))) (cV 2)) (aCons (c2 gDiv (c2 gIx (cV 0) (cC (.int 1))) (cV 2)) aNil)))))) := by rw [← hz]; rfl
  rw [sh]
  have e' : forL (gN 1) LW (upFrom 0 400) [.sh (.tup [.int x, .int y]), .un, .sh (.int x), .sh (.int y)] M = .ok (.nx, [.sh (.tup [.int x, .int y]), x1', .sh (.int (Nat.gcd x y : Nat)), .sh (.int 0)]) M := e
  simp [pD, l4, e', d1, d2, two, low, Int.gcd, ixN]
def sIn (r : Fn) : CS := sSeq (sAsg (gN 3) (cCall0 (ifN 4 (F__law_answered r)) (aCons (cV 0) (aCons (cTup (aCons (cV 2) aNil)) (aCons (cTup aNil) (aCons (cC (.int 0)) aNil)))))) (sIf (tV (cCall0 (ifN 2 F__law_more) (aCons (cV 3) (aCons (cV 1) aNil)))) (sAsg (gN 1) (cV 3)) sNil)
theorem surest_shape : F__law_surest = body 4 1 (sSeq (sAsg (gN 1) (cTup (aCons (cC (.int 0)) (aCons (cC (.int 1)) aNil)))) (sSeq (sFor (iRng2 (cC (.int 1)) (c2 gAdd (c2 gIx (cV 0) (cC (.int 2))) (cC (.int 1)))) (gN 2) (sIn (F__law_held 8))) (sRet (cCall0 (ifN 1 F__law_lowest) (aCons (cV 1) aNil))))) := rfl
section
variable {m h k : Nat} {c0 : Cell × Mem}
theorem e_sLoop (r : Fn) {F : Int → Q} : ∀ (ss : List Int) (q0 : Q) (x2 x3 : Sl) (kvs : List (List Key × D)), Sm q0 → LD m h k kvs →
    (∀ s ∈ ss, Sm (F s) ∧ Gives m h k c0 (F__law_answered r [gameL m h k, .tup (dI ([] ++ [s])), .tup (dN []), .int 0]) (F s)) →
    ∃ x2' x3' kvs', forL (gN 2) (sIn r) (dI ss) [.sh (gameL m h k), .sh (pD q0), x2, x3] (LM c0 kvs) = .ok (.nx, [.sh (gameL m h k), .sh (pD (maxF q0 (ss.map F))), x2', x3']) (LM c0 kvs') ∧ LD m h k kvs'
  | [], q0, x2, x3, kvs, hq, x, _ => ⟨x2, x3, kvs, rfl, x⟩
  | s :: ss, q0, x2, x3, kvs, hq, x, hi => by
    obtain ⟨h1, h2⟩ := hi s List.mem_cons_self
    obtain ⟨kvs1, e, x1⟩ := h2 kvs x
    have sm : Sm (if more (F s) q0 = true then F s else q0) := by
      split
      · exact h1
      · exact hq
    obtain ⟨z2, z3, kvs2, e2, xx⟩ := e_sLoop r ss (if more (F s) q0 = true then F s else q0) (.sh (.int s)) (.sh (pD (F s))) kvs1 sm x1 fun y hy => hi y (List.mem_cons_of_mem _ hy)
    refine ⟨z2, z3, kvs2, ?_, xx⟩
    rw [List.map_cons, maxF]
    have el := e_law_more h1 hq (LM c0 kvs1)
    have l1 : 1 ≤ sizeMax := by decide
    have t : sIn r [.sh (gameL m h k), .sh (pD q0), .sh (.int s), x3] (LM c0 kvs) = .ok (.nx, [.sh (gameL m h k), .sh (pD (if more (F s) q0 = true then F s else q0)), .sh (.int s), .sh (pD (F s))]) (LM c0 kvs1) := by
      have e : F__law_answered r [gameL m h k, .tup [.int s], .tup [], .int 0] (LM c0 kvs) = .ok (pD (F s)) (LM c0 kvs1) := e
      generalize LM c0 kvs1 = M' at *
      by_cases z : more (F s) q0 = true
      · simp [sIn, e, el, z, l1, view_pD]
      · simp [sIn, e, el, z, l1, view_pD]
    show (match sIn r [.sh (gameL m h k), .sh (pD q0), .sh (.int s), x3] (LM c0 kvs) with | .ok (.nx, E) M => forL (gN 2) (sIn r) (dI ss) E M | .ok (.ct, E) M => forL (gN 2) (sIn r) (dI ss) E M | .ok (.bk, E) M => .ok (.nx, E) M | r => r) = _
    rw [t]
    exact e2
theorem e_law_surest (hm : 1 ≤ m) (h1 : 1 ≤ h) (k1 : 1 ≤ k) (hk : k ≤ 4) (hh : h ≤ 6) (hp : k ^ h ≤ 400) {kvs : List (List Key × D)} (x : LD m h k kvs) :
    ∃ kvs', F__law_surest [gameL m h k] (LM c0 kvs) = .ok (pD (low (held (dueOf m) m k h (0, 1) [] [] 0))) (LM c0 kvs') ∧ LD m h k kvs' := by
  have hd := due_dueOf hm
  obtain ⟨n', hn'⟩ : ∃ n', h = n' + 1 := ⟨h - 1, by omega⟩
  have a0 : At m [] [] 0 := ⟨[], .nil⟩
  have r0 : RowIn k [] := fun s hs => (nomatch hs)
  have sm0 : Sm (0, 1) := ⟨by decide, by decide, by decide, by decide⟩
  have HH : ∀ (row : List Int) (b : List Nat) (p : Int), RowIn k row → row ≠ [] → row.length ≤ h → At m row b p → Gives m h k c0 (F__law_held 8 [gameL m h k, .tup (dI row), .tup (dN b), .int p]) (held (dueOf m) m k (h - row.length) (p, dueOf m row) row b p) :=
    fun row b p q1 q2 q3 q4 => e_held hm k1 hk hh hp 8 row b p q1 q2 q3 (by have := List.length_pos_iff.mpr q2; omega) q4
  rw [surest_shape]
  generalize F__law_held 8 = r at HH ⊢
  obtain ⟨x2, x3, kvs', e, xl'⟩ := e_sLoop (c0 := c0) r (F := fun s => ans (dueOf m) m k n' ([] ++ [s]) [] 0) (sizes k) (0, 1) .un .un kvs sm0 x fun s hsz => by
    have hr' := r0.app hsz
    have g : ∀ i, i < min m (([] : List Nat).length + 1) → nxt ([] ++ [s]) [] 0 i ∈ nexts m ([] ++ [s]) [] 0 := fun i hi => by
      rw [nexts_nxt]; exact List.mem_map_of_mem (List.mem_range.mpr hi)
    have sub : ∀ i, i < min m (([] : List Nat).length + 1) → Sm (held (dueOf m) m k n' ((nxt ([] ++ [s]) [] 0 i).2, dueOf m ([] ++ [s])) ([] ++ [s]) (nxt ([] ++ [s]) [] 0 i).1 (nxt ([] ++ [s]) [] 0 i).2) := fun i hi => by
      have a' := nexts_at (s := s) a0 _ (g i hi)
      exact held_sm hd hm hk n' _ _ _ _ (by simp; omega) hr' a' (hd.sm (app_ne _ _) a' hr' hk (by simp))
    obtain ⟨hmin, _, _, c, hc, ec⟩ := ans_spec (k := k) hd hm n' (app_ne [] s) hr'.ok [] 0
    have smA : Sm (ans (dueOf m) m k n' ([] ++ [s]) [] 0) := by
      rw [nexts_nxt] at hc
      obtain ⟨i, hi, rfl⟩ := List.mem_map.mp hc
      rw [ec]; exact sub i (List.mem_range.mp hi)
    rw [nexts_nxt, List.map_map] at hmin
    refine ⟨smA, e_answered r (row := [] ++ [s]) (b := []) (by simp) (app_ne _ _) hmin fun i hi => ⟨sub i hi, ?_⟩⟩
    have a' := nexts_at (s := s) a0 _ (g i hi)
    have ih := HH ([] ++ [s]) (nxt ([] ++ [s]) [] 0 i).1 (nxt ([] ++ [s]) [] 0 i).2 hr' (app_ne _ _) (by simp; omega) a'
    have hlen : (([] : List Int) ++ [s]).length = 1 := rfl
    rw [hlen, show h - 1 = n' by omega] at ih
    exact ih
  rw [← held_succ, ← hn'] at e
  have smR := held_sm hd hm hk h (0, 1) [] [] 0 (by simp; omega) r0 a0 sm0
  refine ⟨kvs', ?_, xl'⟩
  obtain ⟨g0, g1, g2⟩ := gEl (m := m) (h := h) (k := k)
  have l2 : 2 ≤ sizeMax := by decide
  have l4 : (k + 1 : Int).natAbs ≤ sizeMax := by unfold sizeMax; omega
  have l5 : k ≤ sizeMax := by unfold sizeMax; omega
  have l6 : 1 ≤ sizeMax := by decide
  have es := sizes_up k
  have e : forL (gN 2) (sIn r) (dI (sizes k)) [.sh (gameL m h k), .sh (.tup [.int 0, .int 1]), .un, .un] (LM c0 kvs) = _ := e
  have el := e_law_lowest smR.1 smR.2.2.1 (by have := smR.2.2.2; omega) (LM c0 kvs')
  simp [view_gl, g2, l2, l4, l5, l6, es, e, el, -gIx]
end
def GOk (h k : Nat) : Prop := 1 ≤ h ∧ h ≤ 6 ∧ 1 ≤ k ∧ k ≤ 4 ∧ k ^ h ≤ 400
def tab8 : List D := [.tup [.int 1, .int 3], .tup [.int 2, .int 2], .tup [.int 3, .int 2], .tup [.int 3, .int 3], .tup [.int 2, .int 4], .tup [.int 4, .int 1], .tup [.int 6, .int 1], .tup [.int 4, .int 2]]
def tab6 : List D := [.tup [.int 3, .int 4], .tup [.int 4, .int 3], .tup [.int 5, .int 2], .tup [.int 4, .int 4], .tup [.int 5, .int 3], .tup [.int 6, .int 2]]
theorem pickG8 (r : Int) (h1 : 0 ≤ r) (h2 : r < 8) : ∃ h k : Nat, gIx (.lst tab8) (.int r) = some (.tup [.int h, .int k]) ∧ GOk h k := by
  have : r = 0 ∨ r = 1 ∨ r = 2 ∨ r = 3 ∨ r = 4 ∨ r = 5 ∨ r = 6 ∨ r = 7 := by omega
  rcases this with rfl | rfl | rfl | rfl | rfl | rfl | rfl | rfl
  · exact ⟨1, 3, rfl, by unfold GOk; decide⟩
  · exact ⟨2, 2, rfl, by unfold GOk; decide⟩
  · exact ⟨3, 2, rfl, by unfold GOk; decide⟩
  · exact ⟨3, 3, rfl, by unfold GOk; decide⟩
  · exact ⟨2, 4, rfl, by unfold GOk; decide⟩
  · exact ⟨4, 1, rfl, by unfold GOk; decide⟩
  · exact ⟨6, 1, rfl, by unfold GOk; decide⟩
  · exact ⟨4, 2, rfl, by unfold GOk; decide⟩
theorem pickG6 (r : Int) (h1 : 0 ≤ r) (h2 : r < 6) : ∃ h k : Nat, gIx (.lst tab6) (.int r) = some (.tup [.int h, .int k]) ∧ GOk h k := by
  have : r = 0 ∨ r = 1 ∨ r = 2 ∨ r = 3 ∨ r = 4 ∨ r = 5 := by omega
  rcases this with rfl | rfl | rfl | rfl | rfl | rfl
  · exact ⟨3, 4, rfl, by unfold GOk; decide⟩
  · exact ⟨4, 3, rfl, by unfold GOk; decide⟩
  · exact ⟨5, 2, rfl, by unfold GOk; decide⟩
  · exact ⟨4, 4, rfl, by unfold GOk; decide⟩
  · exact ⟨5, 3, rfl, by unfold GOk; decide⟩
  · exact ⟨6, 2, rfl, by unfold GOk; decide⟩
theorem e_law_game (M : Mem) (hM : Hand [] M) : ∃ (m h k : Nat) (c0 : Cell × Mem), F__law_game [.loc 0] M = .ok (gameL m h k) (LM c0 []) ∧ (∃ T, Hand T (c0.1 :: T)) ∧ 1 ≤ m ∧ m ≤ 4 ∧ GOk h k := by
  obtain ⟨r1, M1, e1, hM1, a1, b1⟩ := e_draw M 8 hM (by decide) (by decide)
  obtain ⟨h1, k1, p1, g1⟩ := pickG8 r1 a1 b1
  obtain ⟨r2, M2, e2, hM2, a2, b2⟩ := e_draw M1 40 hM1 (by decide) (by decide)
  have k2 : 2 ≤ sizeMax := by decide
  have k8 : 8 ≤ sizeMax := by decide
  have k6 : 6 ≤ sizeMax := by decide
  have k4 : 4 ≤ sizeMax := by decide
  unfold tab8 at p1
  by_cases z : r2 = 0
  · obtain ⟨r3, M3, e3, hM3, a3, b3⟩ := e_draw M2 6 hM2 (by decide) (by decide)
    obtain ⟨h3, k3, p3, g3⟩ := pickG6 r3 a3 b3
    unfold tab6 at p3
    obtain ⟨r4, M4, e4, hM4, a4, b4⟩ := e_draw M3 4 hM3 (by decide) (by decide)
    obtain ⟨c1, p, b, c, d, _, rfl⟩ := hM4
    refine ⟨1 + r4.toNat, h3, k3, (hd c1 p b c d, []), ?_, ⟨[], c1, p, b, c, d, ‹_›, rfl⟩, by omega, by omega, g3⟩
    have z4 : (((1 + r4.toNat : Nat)) : Int) = 1 + r4 := by omega
    unfold gameL
    rw [z4]
    simp [F__law_game, -gIx, e1, p1, e2, z, e3, p3, e4, k2, k8, k6, k4]
    rfl
  · obtain ⟨r4, M4, e4, hM4, a4, b4⟩ := e_draw M2 4 hM2 (by decide) (by decide)
    obtain ⟨c1, p, b, c, d, _, rfl⟩ := hM4
    refine ⟨1 + r4.toNat, h1, k1, (hd c1 p b c d, []), ?_, ⟨[], c1, p, b, c, d, ‹_›, rfl⟩, by omega, by omega, g1⟩
    have z4 : (((1 + r4.toNat : Nat)) : Int) = 1 + r4 := by omega
    unfold gameL
    rw [z4]
    simp [F__law_game, -gIx, e1, p1, e2, z, e4, k2, k8, k4]
    rfl
end K82
namespace K82
open PySem J PM PG
theorem e_is_less2 {p q : Q} (hq : Sm q) (M : Mem) : F_is_less [pD p, pD q] M = .ok (.bl (more q p)) M := by
  have a1 := gMul_int p.1 q.2 (.inr (sm64 (by have := hq.2.2.1; omega) hq.2.2.2))
  have a2 := gm_sm (b := p.2) hq.1 hq.2.1
  simp [F_is_less, pD, a1, a2, more, ixN]
section
variable {m h k : Nat} {kvs : List (List Key × D)} {r : Q} {M : Mem}
noncomputable abbrev gD (m k h : Nat) (r : Q) (row : List Int) (b : List Nat) (p : Int) : Bool := PG.gd (dueOf m) m k h r row b p
theorem v_spot (M : Mem) (row : List Int) (as b : List Nat) (p : Int) : view M (spotD row as b p) = .obj 2 [.tup (dI row), .tup (dN as), .tup (dN b), .int p] := rfl
theorem v_game (M : Mem) : view M (gameD m h k kvs) = .obj 3 [.int m, .int h, .lst (dI (sizes k)), .dT kvs] := rfl
theorem e_above (hm : 1 ≤ m) (hk : k ≤ 4) (hh : h ≤ 6) (led : Led m h k kvs) {row : List Int} {as b : List Nat} {p : Int} (hr : RowIn k row) (hl : row.length ≤ h) (a : At m row b p) :
    F_Game_is_above [gameD m h k kvs, spotD row as b p, pD r] M = .ok (.bl (above (dueOf m) r row p)) M := by
  have sb := a.small hr hk (by omega)
  by_cases z : row = []
  · subst z
    simp [F_Game_is_above, v_spot, above]
  · have lp := List.length_pos_iff.mpr z
    have lk := led row hr z hl
    have kk := keysOf_dI row
    have sd := (due_dueOf hm).sm z a hr hk (by omega)
    have a1 := gm_sm (b := r.2) sb.1 sb.2.1
    have a2 := gMul_int r.1 (dueOf m row) (.inr (sm64 (by have := sd.2.2.1; omega) sd.2.2.2))
    have i0 : ∀ M, view M (pD r) = .tup [.int r.1, .int r.2] := fun _ => rfl
    simp [F_Game_is_above, v_spot, v_game, i0, z, lp, kk, lk, a1, a2, above, more, ixN]
theorem e_holds (hm : 1 ≤ m) (hm4 : m ≤ 4) (hk : k ≤ 4) (hh : h ≤ 6) (hr2 : 0 < r.2) (led : Led m h k kvs) {row : List Int} {as b : List Nat} {p : Int} (hr : RowIn k row) (hl : row.length ≤ h) (a : At m row b p) (hs : as.length ≤ row.length) :
    F_Game_holds [gameD m h k kvs, spotD row as b p, pD r] M = .ok (.bl (gD m k h r row b p)) M := by
  have hd := due_dueOf hm
  have e := e_worth (M := M) hm hm4 hk hh led 8 row as b p hr hl (by omega) a hs
  have smB : Sm (base (dueOf m) row p) := by
    unfold base
    split
    · exact ⟨by decide, by decide, by decide, by decide⟩
    · rename_i ne; exact hd.sm ne a hr hk (by omega)
  have sm := held_sm hd hm hk (h - row.length) _ row b p (by omega) hr a smB
  have el := e_is_less2 (p := r) sm.low M
  have ml : more (low (held (dueOf m) m k (h - row.length) (base (dueOf m) row p) row b p)) r = more (Val (dueOf m) m k h row b p) r := by
    rw [Bool.eq_iff_iff, more_iff, more_iff, Le_low_left sm.2.2.1]; rfl
  rw [ml] at el
  unfold gD PG.gd
  have i0 : ∀ M, view M (pD r) = pD r := fun _ => rfl
  simp [F_Game_holds, v_game, e, el, Val]
def gaIn : CS := sIf (tV (cMethN 3 3 F_Game_holds (cV 0) (aCons (cMethN 2 3 F_Spot_behind (cV 1) (aCons (cV 2) (aCons (cV 4) aNil))) (aCons (cV 3) aNil)))) (sRet (cV 4)) sNil
theorem good_shape : F_Game_good_answer = body 5 4 (sSeq (sFor (iSeq (cMethN 3 2 F_Game_answers_at (cV 0) (aCons (cV 1) aNil))) (gN 4) gaIn) (sRet (cC .non))) := rfl
theorem e_gaLoop (hm : 1 ≤ m) (hm4 : m ≤ 4) (hk : k ≤ 4) (hh : h ≤ 6) (hr2 : 0 < r.2) (led : Led m h k kvs) {row : List Int} {as b : List Nat} {p s : Int} (hr : RowIn k row) (hl : row.length < h) (a : At m row b p) (hs : as.length ≤ row.length) (hsz : s ∈ sizes k) :
    ∀ (is : List Nat) (x4 : Sl), (∀ i ∈ is, i < min m (b.length + 1)) → ∃ E', forL (gN 4) gaIn (dN is) [.sh (gameD m h k kvs), .sh (spotD row as b p), .sh (.int s), .sh (pD r), x4] M =
      .ok ((match is.find? fun i => gD m k h r (row ++ [s]) (nxt (row ++ [s]) b p i).1 (nxt (row ++ [s]) b p i).2 with | some i => Fl.rt (.int i) | none => .nx), E') M
  | [], x4, _ => ⟨_, rfl⟩
  | i :: is, x4, hi => by
    have him := hi i List.mem_cons_self
    have sb := a.small hr hk (by omega)
    have eb := e_behind_spot row as b p s i (by omega) (by omega) (by omega) (by omega) M
    have eh := e_holds (M := M) (as := as ++ [i]) hm hm4 hk hh hr2 led (hr.app hsz) (by rw [List.length_append, List.length_singleton]; omega) (nxt_at (s := s) a him) (by simp; omega)
    obtain ⟨E', e⟩ := e_gaLoop hm hm4 hk hh hr2 led hr hl a hs hsz is (.sh (.int i)) fun j hj => hi j (List.mem_cons_of_mem _ hj)
    generalize hsp : spotD (row ++ [s]) (as ++ [i]) (nxt (row ++ [s]) b p i).1 (nxt (row ++ [s]) b p i).2 = sp at eb eh
    show ∃ E', (match gaIn [.sh (gameD m h k kvs), .sh (spotD row as b p), .sh (.int s), .sh (pD r), .sh (.int i)] M with | .ok (.nx, E) M => forL (gN 4) gaIn (dN is) E M | .ok (.ct, E) M => forL (gN 4) gaIn (dN is) E M | .ok (.bk, E) M => .ok (.nx, E) M | r => r) = _
    cases z : gD m k h r (row ++ [s]) (nxt (row ++ [s]) b p i).1 (nxt (row ++ [s]) b p i).2 with
    | true =>
      rw [z] at eh
      have t : gaIn [.sh (gameD m h k kvs), .sh (spotD row as b p), .sh (.int s), .sh (pD r), .sh (.int i)] M = .ok (.rt (.int i), [.sh (gameD m h k kvs), .sh (spotD row as b p), .sh (.int s), .sh (pD r), .sh (.int i)]) M := by
        simp [gaIn, v_game, v_spot, eb, eh]
      rw [t, List.find?_cons, z]
      exact ⟨_, rfl⟩
    | false =>
      rw [z] at eh
      have t : gaIn [.sh (gameD m h k kvs), .sh (spotD row as b p), .sh (.int s), .sh (pD r), .sh (.int i)] M = .ok (.nx, [.sh (gameD m h k kvs), .sh (spotD row as b p), .sh (.int s), .sh (pD r), .sh (.int i)]) M := by
        simp [gaIn, v_game, v_spot, eb, eh]
      rw [t, List.find?_cons, z]
      exact ⟨E', e⟩
theorem e_good (hm : 1 ≤ m) (hm4 : m ≤ 4) (hk : k ≤ 4) (hh : h ≤ 6) (hr2 : 0 < r.2) (led : Led m h k kvs) {row : List Int} {as b : List Nat} {p s : Int} (hr : RowIn k row) (hl : row.length < h) (a : At m row b p) (hs : as.length ≤ row.length) (hsz : s ∈ sizes k) :
    F_Game_good_answer [gameD m h k kvs, spotD row as b p, .int s, pD r] M = .ok (match pickO (dueOf m) m k h r (row ++ [s]) b p with | some i => .int i | none => .non) M := by
  have sb := a.small hr hk (by omega)
  have ea := e_answers (h := h) (k := k) (kvs := kvs) (row := row) (as := as) (p := p) (M := M) hm hm4 (show b.length ≤ 100 by omega)
  obtain ⟨E', e⟩ := e_gaLoop (M := M) (as := as) hm hm4 hk hh hr2 led hr hl a hs hsz (List.range (min m (b.length + 1))) .un fun i hi => List.mem_range.mp hi
  rw [good_shape]
  unfold pickO
  cases q : (List.range (min m (b.length + 1))).find? fun i => gD m k h r (row ++ [s]) (nxt (row ++ [s]) b p i).1 (nxt (row ++ [s]) b p i).2 with
  | none =>
    rw [q] at e
    dsimp only at e
    generalize hL : dN (List.range (min m (b.length + 1))) = L at e ea
    simp [v_game, ea, e]
  | some i =>
    rw [q] at e
    dsimp only at e
    generalize hL : dN (List.range (min m (b.length + 1))) = L at e ea
    simp [v_game, ea, e]
end
end K82
namespace K82
open PySem J PM PG
theorem set_same {M : Mem} {l : Nat} {c : Cell} (h : M[l]? = some c) : M.set l c = M := by
  obtain ⟨hl, e⟩ := List.getElem?_eq_some_iff.mp h
  apply List.ext_getElem
  · simp
  · intro i h1 h2
    by_cases z : l = i
    · subst z; simp [e]
    · simp [z]
theorem get_set {M : Mem} {l : Nat} {c c' : Cell} (h : M[l]? = some c) : (M.set l c')[l]? = some c' := by
  rw [List.getElem?_set_self (List.getElem?_eq_some_iff.mp h).1]
section
variable {m h k : Nat} {gk : List (List Key × D)} {r : Q}
noncomputable def pkI (m k h : Nat) (r : Q) (row : List Int) : Int := (PG.pk (dueOf m) m k h r row : Nat)
noncomputable abbrev pos (m k h : Nat) (r : Q) (row : List Int) : List Nat × Int := posK (dueOf m) m k h r row
structure KB (m k h : Nat) (r : Q) (kvs : List (List Key × D)) : Prop where
  rd : RDict (pkI m k h r) kvs
  nd : (kvs.map (·.1)).Nodup
  sub : ∀ p ∈ kvs, p.1 ∈ (rowsTo k h).map keyI
def inK (kvs : List (List Key × D)) (row : List Int) : Prop := (kvs.any fun kv => decide (kv.1 = keyI row)) = true
theorem KB.len {kvs : List (List Key × D)} (x : KB m k h r kvs) (k1 : 1 ≤ k) (hh : h ≤ 6) (hp : k ^ h ≤ 400) : kvs.length < sizeMax := by
  have := len_sub x.nd fun y hy => by
    obtain ⟨p, hp, rfl⟩ := List.mem_map.mp hy
    exact x.sub p hp
  have h2 := rowsTo_len k1 hp h (Nat.le_refl _)
  rw [List.length_map, List.length_map] at this
  unfold sizeMax; omega
theorem KB.put {kvs : List (List Key × D)} (x : KB m k h r kvs) {row : List Int} (ne : row ≠ []) (hl : row.length ≤ h) (hr : RowIn k row) : KB m k h r (J.put kvs (keyI row) (.int (pkI m k h r row))) :=
  ⟨x.rd.put row, put_nodup x.nd, fun p hp => by
    rcases mem_put hp with e | e
    · rw [e]; exact List.mem_map_of_mem ((mem_rowsTo h row).mpr ⟨ne, hl, hr⟩)
    · exact x.sub p e⟩
def khIn (rr : Fn) : CS := (sSeq (sAsg (gN 5) (cMethN 3 4 F_Game_good_answer (cV 0) (aCons (cV 1) (aCons (cV 4) (aCons (cV 2) aNil))))) (sSeq (sIf (tV (c1 gIsN (cV 5))) (sRet (cC (.bl false))) sNil) (sSeq (sPut (rLoc (cV 3)) (c2 gAdd (c1 (gFld 2 0) (cV 1)) (cTup (aCons (cV 4) aNil))) (cV 5)) (sExpr (cMethN 3 4 rr (cV 0) (aCons (cMethN 2 3 F_Spot_behind (cV 1) (aCons (cV 4) (aCons (cV 5) aNil))) (aCons (cV 2) (aCons (cV 3) aNil))))))))
theorem kh_shape (n : Nat) : F_Game_keeper_holds (n + 1) = body 6 4 (sSeq (sIf (tV (cMethN 3 3 F_Game_is_above (cV 0) (aCons (cV 1) (aCons (cV 2) aNil)))) (sRet (cC (.bl false))) sNil) (sSeq (sIf (tV (c2 gEq (c1 gLen (c1 (gFld 2 0) (cV 1))) (c1 (gFld 3 1) (cV 0)))) (sRet (cC (.bl true))) sNil) (sSeq (sFor (iSeq (c1 (gFld 3 2) (cV 0))) (gN 4) (khIn (F_Game_keeper_holds n))) (sRet (cC (.bl true)))))) := rfl
def KhOk (m k h : Nat) (r : Q) (gk : List (List Key × D)) (rr : Fn) (N : Nat) : Prop := ∀ (row : List Int) (as b : List Nat) (p : Int) (l : Nat) (kvs : List (List Key × D)) (M : Mem), RowIn k row → row.length ≤ h → h - row.length < N → pos m k h r row = (b, p) → At m row b p → as.length ≤ row.length → gD m k h r row b p = true →
  M[l]? = some (.dT kvs) → KB m k h r kvs → ∃ kvs', rr [gameD m h k gk, spotD row as b p, pD r, .loc l] M = .ok (.bl true) (M.set l (.dT kvs')) ∧ KB m k h r kvs' ∧ (∀ q, inK kvs q → inK kvs' q) ∧ ∀ t, t ≠ [] → RowIn k (row ++ t) → (row ++ t).length ≤ h → inK kvs' (row ++ t)
theorem e_khLoop (hm : 1 ≤ m) (hm4 : m ≤ 4) (k1 : 1 ≤ k) (hk : k ≤ 4) (hh : h ≤ 6) (hp : k ^ h ≤ 400) (hr2 : 0 < r.2) (led : Led m h k gk) {rr : Fn} {N : Nat} (IH : KhOk m k h r gk rr N) {row : List Int} {as b : List Nat} {p : Int} (hr : RowIn k row) (hl : row.length < h) (hN : h - row.length < N + 1) (hps : pos m k h r row = (b, p)) (a : At m row b p) (hs : as.length ≤ row.length) (l : Nat) :
    ∀ (ss : List Int) (x4 x5 : Sl) (kvs : List (List Key × D)) (M : Mem), (∀ s ∈ ss, s ∈ sizes k) → M[l]? = some (.dT kvs) → KB m k h r kvs →
    (∃ x4' x5' kvs', forL (gN 4) (khIn rr) (dI ss) [.sh (gameD m h k gk), .sh (spotD row as b p), .sh (pD r), .sh (.loc l), x4, x5] M = .ok (.nx, [.sh (gameD m h k gk), .sh (spotD row as b p), .sh (pD r), .sh (.loc l), x4', x5']) (M.set l (.dT kvs')) ∧ KB m k h r kvs' ∧ (∀ q, inK kvs q → inK kvs' q) ∧ (∀ s ∈ ss, ∀ t, RowIn k (row ++ s :: t) → (row ++ s :: t).length ≤ h → inK kvs' (row ++ s :: t)) ∧ ∀ s ∈ ss, ∃ i, pickO (dueOf m) m k h r (row ++ [s]) b p = some i) ∨
    (∃ E' kvs', forL (gN 4) (khIn rr) (dI ss) [.sh (gameD m h k gk), .sh (spotD row as b p), .sh (pD r), .sh (.loc l), x4, x5] M = .ok (.rt (.bl false), E') (M.set l (.dT kvs')) ∧ ∃ s ∈ ss, pickO (dueOf m) m k h r (row ++ [s]) b p = none)
  | [], x4, x5, kvs, M, _, hM, hK => .inl ⟨x4, x5, kvs, by rw [set_same hM]; rfl, hK, fun _ q => q, fun s hs => (nomatch hs), fun s hs => (nomatch hs)⟩
  | s :: ss, x4, x5, kvs, M, hss, hM, hK => by
    have hsz := hss s List.mem_cons_self
    have sb := a.small hr hk (by omega)
    have eg := e_good (M := M) (as := as) hm hm4 hk hh hr2 led hr hl a hs hsz
    have unf : ∀ X : J.R (Fl × J.Env), khIn rr [.sh (gameD m h k gk), .sh (spotD row as b p), .sh (pD r), .sh (.loc l), .sh (.int s), x5] M = X → forL (gN 4) (khIn rr) (dI (s :: ss)) [.sh (gameD m h k gk), .sh (spotD row as b p), .sh (pD r), .sh (.loc l), x4, x5] M = (match X with | .ok (.nx, E) M => forL (gN 4) (khIn rr) (dI ss) E M | .ok (.ct, E) M => forL (gN 4) (khIn rr) (dI ss) E M | .ok (.bk, E) M => .ok (.nx, E) M | r => r) := fun X hX => by
      rw [← hX]; rfl
    cases q : pickO (dueOf m) m k h r (row ++ [s]) b p with
    | none =>
      rw [q] at eg
      refine .inr ⟨[.sh (gameD m h k gk), .sh (spotD row as b p), .sh (pD r), .sh (.loc l), .sh (.int s), .sh .non], kvs, ?_, s, List.mem_cons_self, q⟩
      rw [set_same hM, unf (.ok (.rt (.bl false), [.sh (gameD m h k gk), .sh (spotD row as b p), .sh (pD r), .sh (.loc l), .sh (.int s), .sh .non]) M) (by simp [khIn, v_game, eg])]
    | some i =>
      rw [q] at eg
      dsimp only at eg
      obtain ⟨him, gi⟩ := pickO_some q
      have hr' := hr.app hsz
      have hl' : (row ++ [s]).length = row.length + 1 := by rw [List.length_append, List.length_singleton]
      have pki : pkI m k h r (row ++ [s]) = (i : Int) := by
        unfold pkI PG.pk
        rw [List.dropLast_concat]
        have : posK (dueOf m) m k h r row = (b, p) := hps
        rw [this]
        unfold pick
        rw [q]; rfl
      have hps' : pos m k h r (row ++ [s]) = nxt (row ++ [s]) b p i := by
        have e := posK_app (due := dueOf m) (m := m) (k := k) (h := h) (r := r) row s
        have p2 : posK (dueOf m) m k h r row = (b, p) := hps
        have p3 : PG.pk (dueOf m) m k h r (row ++ [s]) = i := by
          have := pki
          unfold pkI at this
          omega
        rw [p2, p3] at e
        exact e
      have hK1 := hK.put (app_ne row s) (by omega) hr'
      rw [pki] at hK1
      have hM1 := get_set (c' := .dT (J.put kvs (keyI (row ++ [s])) (.int i))) hM
      obtain ⟨kvs2, e2, hK2, mo2, al2⟩ := IH (row ++ [s]) (as ++ [i]) (nxt (row ++ [s]) b p i).1 (nxt (row ++ [s]) b p i).2 l _ _ hr' (by omega) (by omega) hps' (nxt_at (s := s) a him) (by rw [hl', List.length_append, List.length_singleton]; omega) gi hM1 hK1
      rw [List.set_set] at e2
      have eb := fun M => e_behind_spot row as b p s i (by omega) (by omega) (by omega) (by omega) M
      generalize hsp : spotD (row ++ [s]) (as ++ [i]) (nxt (row ++ [s]) b p i).1 (nxt (row ++ [s]) b p i).2 = sp at e2 eb
      have kp : kPut (.tup (dI (row ++ [s]))) (.int i) (.dT kvs) = some (.dT (J.put kvs (keyI (row ++ [s])) (.int i))) := by
        show (if kvs.length < sizeMax then (keysOf (dI (row ++ [s]))).map fun ks => Cell.dT (J.put kvs ks (.int i)) else none) = _
        rw [if_pos (hK.len k1 hh hp), keysOf_dI]; rfl
      have l0 : 1 ≤ sizeMax := by decide
      have l1 : row.length + 1 ≤ sizeMax := by unfold sizeMax; omega
      have e3 : dI row ++ [D.int s] = dI (row ++ [s]) := by simp
      have turn : khIn rr [.sh (gameD m h k gk), .sh (spotD row as b p), .sh (pD r), .sh (.loc l), .sh (.int s), x5] M = .ok (.nx, [.sh (gameD m h k gk), .sh (spotD row as b p), .sh (pD r), .sh (.loc l), .sh (.int s), .sh (.int i)]) (M.set l (.dT kvs2)) := by
        generalize hR : dI (row ++ [s]) = R at *
        simp [khIn, v_game, v_spot, eg, l0, l1, e3, hM, kp, eb, e2, -kPut, -List.map_append]
      have rest := e_khLoop hm hm4 k1 hk hh hp hr2 led IH hr hl hN hps a hs l ss (.sh (.int s)) (.sh (.int i)) kvs2 (M.set l (.dT kvs2)) (fun x hx => hss x (List.mem_cons_of_mem _ hx)) (get_set hM) hK2
      simp only [List.set_set] at rest
      rcases rest with ⟨x4', x5', kvs', e, hK', mo', al', pp⟩ | ⟨E', kvs', e, s', hs', q'⟩
      · refine .inl ⟨x4', x5', kvs', by rw [unf _ turn]; exact e, hK', fun q z => mo' q (mo2 q (any_put (.inr z))), fun s1 hs1 t r1 r2 => ?_, fun s1 hs1 => ?_⟩
        rcases List.mem_cons.mp hs1 with rfl | hs1
        · cases t with
          | nil => exact mo' _ (mo2 _ (any_put (.inl rfl)))
          | cons t0 t =>
            have ea : row ++ s1 :: t0 :: t = (row ++ [s1]) ++ (t0 :: t) := by simp
            rw [ea] at r1 r2 ⊢
            exact mo' _ (al2 _ (by simp) r1 r2)
        · exact al' s1 hs1 t r1 r2
        rcases List.mem_cons.mp hs1 with rfl | hs1
        · exact ⟨i, q⟩
        · exact pp s1 hs1
      · exact .inr ⟨E', kvs', by rw [unf _ turn]; exact e, s', List.mem_cons_of_mem _ hs', q'⟩
theorem e_kh (hm : 1 ≤ m) (hm4 : m ≤ 4) (k1 : 1 ≤ k) (hk : k ≤ 4) (hh : h ≤ 6) (hp : k ^ h ≤ 400) (hr2 : 0 < r.2) (led : Led m h k gk) : ∀ N, KhOk m k h r gk (F_Game_keeper_holds N) N
  | 0 => fun row as b p l kvs M _ _ hN => absurd hN (by omega)
  | N + 1 => fun row as b p l kvs M hr hl hN hps a hs g hM hK => by
    have hd := due_dueOf hm
    have ea := e_above (M := M) (as := as) (r := r) hm hk hh led hr hl a
    rw [good_above hd hm hr2 hr g] at ea
    rw [kh_shape]
    by_cases z : row.length = h
    · refine ⟨kvs, ?_, hK, fun _ q => q, fun t ht _ h3 => absurd (List.length_pos_iff.mpr ht) (by rw [List.length_append] at h3; omega)⟩
      rw [set_same hM]
      simp [v_game, v_spot, ea, z]
    · have z2 : ¬ (row.length : Int) = h := by omega
      have lo := e_khLoop hm hm4 k1 hk hh hp hr2 led (e_kh hm hm4 k1 hk hh hp hr2 led N) hr (by omega) hN hps a hs l (sizes k) .un .un kvs M (fun _ q => q) hM hK
      rcases lo with ⟨x4', x5', kvs', e, hK', mo', al', pp⟩ | ⟨E', kvs', e, s', hs', q'⟩
      · refine ⟨kvs', ?_, hK', mo', fun t ht h2 h3 => ?_⟩
        · simp [v_game, v_spot, ea, z, z2, e]
        · cases t with
          | nil => exact absurd rfl ht
          | cons s t => exact al' s (mem_sizes.mpr (h2 s (by simp))) t h2 h3
      · obtain ⟨i, qi, _⟩ := good_pick hd hm hr2 hr (show row.length < h by omega) g hs'
        rw [qi] at q'; cases q'
/-- at the root: good or not -/
theorem e_khRoot (hm : 1 ≤ m) (hm4 : m ≤ 4) (h1 : 1 ≤ h) (k1 : 1 ≤ k) (hk : k ≤ 4) (hh : h ≤ 6) (hp : k ^ h ≤ 400) (hr1 : 0 ≤ r.1) (hr2 : 0 < r.2) (led : Led m h k gk) (l : Nat) (M : Mem) (hM : M[l]? = some (.dT [])) :
    ∃ kvs', F_Game_keeper_holds 8 [gameD m h k gk, spotD [] [] [] 0, pD r, .loc l] M = .ok (.bl (gD m k h r [] [] 0)) (M.set l (.dT kvs')) ∧ (gD m k h r [] [] 0 = true → KB m k h r kvs' ∧ ∀ t, t ≠ [] → RowIn k t → t.length ≤ h → inK kvs' t) := by
  have hd := due_dueOf hm
  have a0 : At m [] [] 0 := ⟨[], .nil⟩
  have r0 : RowIn k [] := fun s hs => (nomatch hs)
  have hK : KB m k h r [] := ⟨⟨fun p hp => (nomatch hp)⟩, List.nodup_nil, fun p hp => (nomatch hp)⟩
  cases g : gD m k h r [] [] 0 with
  | true =>
    obtain ⟨kvs', e, hK', _, al⟩ := e_kh (gk := gk) hm hm4 k1 hk hh hp hr2 led 8 [] [] [] 0 l [] M r0 (by simp) (by simp; omega) rfl a0 (by simp) g hM hK
    exact ⟨kvs', e, fun _ => ⟨hK', al⟩⟩
  | false =>
    have ea := e_above (M := M) (as := []) (r := r) hm hk hh led r0 (by simp) a0
    have na : above (dueOf m) r [] 0 = false := by simp [above]
    rw [na] at ea
    obtain ⟨_, s, hsz, bad⟩ := bad_size hd hm hr1 hr2 r0 g na
    have lo := e_khLoop (rr := F_Game_keeper_holds 7) hm hm4 k1 hk hh hp hr2 led (e_kh hm hm4 k1 hk hh hp hr2 led 7) r0 (as := []) (show ([] : List Int).length < h by show 0 < h; omega) (by show h - 0 < 8; omega) rfl a0 (by simp) l (sizes k) .un .un [] M (fun _ q => q) hM hK
    rw [kh_shape]
    rcases lo with ⟨x4', x5', kvs', e, hK', mo', al', pp⟩ | ⟨E', kvs', e, _⟩
    · -- the loop cannot pass s: all its answers are bad
      obtain ⟨i, qi⟩ := pp s hsz
      obtain ⟨him, gi⟩ := pickO_some qi
      have := bad i him
      rw [gi] at this; cases this
    · refine ⟨kvs', ?_, fun z => nomatch z⟩
      have z2 : ¬ (0 : Int) = h := by omega
      have e' : forL (gN 4) (khIn (F_Game_keeper_holds 7)) (dI (sizes k)) [.sh (gameD m h k gk), .sh (spotD [] [] [] 0), .sh (pD r), .sh (.loc l), .un, .un] M = _ := e
      have ea' : F_Game_is_above [gameD m h k gk, spotD [] [] [] 0, pD r] M = .ok (.bl false) M := ea
      have v0 : ∀ M, view M (spotD [] [] [] 0) = .obj 2 [.tup [], .tup [], .tup [], .int 0] := fun _ => rfl
      simp [v_game, v0, ea', z2, e']
end
end K82
namespace K82
open PySem J PM PG
/-- a ratio as the law draws it -/
structure Rt (r : Q) : Prop where
  n : 0 ≤ r.1
  d : 0 < r.2
  s : r.2 < 1073741824
  g : Int.gcd r.1 r.2 = 1
theorem e_is_pair (q : Q) (M : Mem) : F_is_pair [pD q] M = .ok (.bl true) M := by simp [F_is_pair, pD]
theorem e_frac {r : Q} (hr : Rt r) (M : Mem) : F_is_fraction [pD r] M = .ok (.bl true) M := by
  obtain ⟨a, b⟩ := r
  obtain ⟨h1, h2, h3, h4⟩ := hr
  dsimp only at h1 h2 h3 h4
  obtain ⟨x, rfl⟩ := Int.eq_ofNat_of_zero_le h1
  obtain ⟨y, rfl⟩ := Int.eq_ofNat_of_zero_le (show 0 ≤ b by omega)
  have e := e_common x y (Nat.lt_of_lt_of_le (show y < 2 ^ 30 by omega) (Nat.pow_le_pow_right (by decide) (by decide))) M
  have g : Nat.gcd x y = 1 := h4
  rw [g] at e
  have ep := e_is_pair ((x : Int), (y : Int)) M
  have ep : F_is_pair [.tup [.int x, .int y]] M = .ok (.bl true) M := ep
  have y0 : 0 < y := by omega
  simp [F_is_fraction, pD, ep, e_is_integer, e, ixN, y0]
theorem e_check_ratio (m h k : Nat) {r : Q} (hr : Rt r) (hm : 1 ≤ m) (hm4 : m ≤ 4) (h1 : 1 ≤ h) (hh : h ≤ 6) (k1 : 1 ≤ k) (hk : k ≤ 4) (hp : k ^ h ≤ 400) (M : Mem) : F_check_ratio_game [.int m, .int h, .int k, pD r] M = .ok .non M := by
  have c1 := e_check_game m h k (by omega) (by omega) (by omega) (by omega) (by omega) (by omega) M
  have c2 := e_check_small h k hk hh hp M
  have c3 := e_frac hr M
  simp [F_check_ratio_game, c1, c2, c3]
section
variable {m h k : Nat} {gk : List (List Key × D)} {r : Q}
theorem e_kbook (hr : Rt r) (hm : 1 ≤ m) (hm4 : m ≤ 4) (h1 : 1 ≤ h) (hh : h ≤ 6) (k1 : 1 ≤ k) (hk : k ≤ 4) (hp : k ^ h ≤ 400) (M : Mem) :
    ∃ B, F_keepers_book [.int m, .int h, .int k, pD r] M = .ok (if gD m k h r [] [] 0 = true then .loc M.length else .non) (M ++ [.dT B]) ∧ (gD m k h r [] [] 0 = true → KB m k h r B ∧ ∀ t, t ≠ [] → RowIn k t → t.length ≤ h → inK B t) := by
  have c := e_check_ratio m h k hr hm hm4 h1 hh k1 hk hp M
  obtain ⟨gk, led, mk⟩ := e_mkGame m h k hm k1 hk hh hp (M ++ [.dT []])
  have hM : (M ++ [Cell.dT []])[M.length]? = some (.dT []) := by simp
  obtain ⟨B, e, al⟩ := e_khRoot hm hm4 h1 k1 hk hh hp hr.n hr.d led M.length (M ++ [.dT []]) hM
  refine ⟨B, ?_, al⟩
  have mk2 := mk (aCons (cV 0) (aCons (cV 1) (aCons (cV 2) aNil))) [.sh (.int m), .sh (.int h), .sh (.int k), .sh (pD r), .sh (.loc M.length)] (by simp)
  have eb := e_begin (M ++ [.dT []])
  have st : (M ++ [Cell.dT []]).set M.length (.dT B) = M ++ [.dT B] := by simp
  rw [st] at e
  unfold F_keepers_book
  generalize hmk : cMkN 3 4 F_Game___init__ (aCons (cV 0) (aCons (cV 1) (aCons (cV 2) aNil))) = mkC at mk2 ⊢
  generalize F_Game_keeper_holds 8 = KH at e ⊢
  cases z : gD m k h r [] [] 0 with
  | true =>
    rw [z] at e
    simp [c, mk2, eb, v_game, e, J.cellOf]
  | false =>
    rw [z] at e
    simp [c, mk2, eb, v_game, e, J.cellOf]
def ikIn : CS := (sSeq (sAsg (gN 8) (c2 gIx (oV 6) (cSl (cV 7) oNone (oSome (c1 gNeg (cC (.int 1))))))) (sSeq (sIf (tOr (tV (c2 gNotIn (cV 7) (cV 4))) (tNot (tV (cCall0 (ifN 3 F_may_stay) (aCons (c1 (gFld 2 2) (cV 8)) (aCons (cV 0) (aCons (c2 gIx (cV 4) (cV 7)) aNil))))))) (sRet (cC (.bl false))) sNil) (sSeq (sPut (rOwn 6) (cV 7) (cMethN 2 3 F_Spot_behind (cV 8) (aCons (c2 gIx (cV 7) (c1 gNeg (cC (.int 1)))) (aCons (c2 gIx (cV 4) (cV 7)) aNil)))) (sIf (tV (cMethN 3 3 F_Game_is_above (cV 5) (aCons (c2 gIx (oV 6) (cV 7)) (aCons (cV 3) aNil)))) (sRet (cC (.bl false))) sNil))))
theorem ik_shape : F_is_keepers_book = body 9 5 (sSeq (sExpr (cCall0 (ifN 4 F_check_ratio_game) (aCons (cV 0) (aCons (cV 1) (aCons (cV 2) (aCons (cV 3) aNil)))))) (sSeq (sIf (tOr (tNot (tV (cIsDT (cV 4)))) (tV (c2 gNe (cLenT (cV 4)) (cCall0 (ifN 2 F_many_rows) (aCons (cV 1) (aCons (cV 2) aNil)))))) (sRet (cC (.bl false))) sNil) (sSeq (sAsg (gN 5) (cMkN 3 4 F_Game___init__ (aCons (cV 0) (aCons (cV 1) (aCons (cV 2) aNil))))) (sSeq (sOwn 6 (cDT1 (cTup aNil) (cCall0 (ifN 0 F_begin) aNil))) (sSeq (sFor (iSeq (cCall0 (ifN 2 F_rows_of) (aCons (cV 1) (aCons (cV 2) aNil)))) (gN 7) ikIn) (sRet (cC (.bl true)))))))) := rfl
theorem last_ix {ds : List D} {d : D} : gIx (.tup (ds ++ [d])) (.int (-1)) = some d := by
  show (ixN (ds ++ [d]).length (-1)).bind (fun j => (ds ++ [d])[j]?) = _
  have : ixN (ds ++ [d]).length (-1) = some ds.length := by
    unfold ixN
    rw [if_neg (by decide), if_pos (by rw [List.length_append]; simp; omega)]
    congr 1
    rw [List.length_append]; simp; omega
  rw [this]
  simp
theorem cut_last {ds : List D} {d : D} : cutD (ds ++ [d]) none (some (-1)) = ds := by
  unfold cutD
  have : sIx (ds ++ [d]).length (ds ++ [d]).length (some (-1)) = ds.length := by
    simp only [sIx]
    rw [if_pos (by decide), List.length_append]; simp; omega
  rw [this]
  show ((ds ++ [d]).drop 0).take (ds.length - 0) = ds
  simp
theorem keysOf_app (row : List Int) (s : Int) : keysOf (dI row ++ [D.int s]) = some (keyI (row ++ [s])) := by
  have : dI row ++ [D.int s] = dI (row ++ [s]) := by simp
  rw [this, keysOf_dI]
theorem not_any {B : List (List Key × D)} {key : List Key} (h : look B key = none) : (B.any fun kv => decide (kv.1 = key)) = false := by
  cases q : B.any fun kv => decide (kv.1 = key) with
  | false => rfl
  | true =>
    obtain ⟨d, e⟩ := look_any q
    rw [h] at e; cases e
theorem any_of {B : List (List Key × D)} {key : List Key} {d : D} (h : look B key = some d) : (B.any fun kv => decide (kv.1 = key)) = true := List.any_eq_true.mpr ⟨_, look_mem h, by simp⟩
theorem e_mayS (b : List Nat) (m : Nat) (hm : 1 ≤ m) (w : Int) (M : Mem) : F_may_stay [.tup (dN b), .int m, .int w] M = .ok (.bl (decide (0 ≤ w ∧ w < (min m (b.length + 1) : Nat)))) M := by
  have e : (decide (0 ≤ w) && decide (w ≤ min (b.length : Int) ((m : Int) - 1))) = decide (0 ≤ w ∧ w < (min m (b.length + 1) : Nat)) := by
    rw [Bool.eq_iff_iff]
    simp only [Bool.and_eq_true, decide_eq_true_eq]
    omega
  simp [F_may_stay, e_is_within, e]
/-- one row of a book judged -/
theorem e_ikIn (hm : 1 ≤ m) (hk : k ≤ 4) (hh : h ≤ 6) (led : Led m h k gk) {B SP : List (List Key × D)} {l : Nat} {M : Mem} (hM : M[l]? = some (.dT B)) {row : List Int} {s : Int} {as b : List Nat} {p : Int} (hr : RowIn k (row ++ [s])) (hl : row.length < h) (a : At m row b p) (hs : as.length ≤ row.length)
    (hB : ∀ d, look B (keyI (row ++ [s])) = some d → ∃ w, d = .int w) (hS : look SP (keyI row) = some (spotD row as b p)) (hSl : SP.length < sizeMax) (x8 : Sl) :
    (∃ (i : Nat) (E' : Sl), (look B (keyI (row ++ [s])) = some (.int i) ∧ i < min m (b.length + 1) ∧ above (dueOf m) r (row ++ [s]) (nxt (row ++ [s]) b p i).2 = false) ∧
      ikIn [.sh (.int m), .sh (.int h), .sh (.int k), .sh (pD r), .sh (.loc l), .sh (gameD m h k gk), .ow (.dT SP), .sh (.tup (dI (row ++ [s]))), x8] M = .ok (.nx, [.sh (.int m), .sh (.int h), .sh (.int k), .sh (pD r), .sh (.loc l), .sh (gameD m h k gk), .ow (.dT (J.put SP (keyI (row ++ [s])) (spotD (row ++ [s]) (as ++ [i]) (nxt (row ++ [s]) b p i).1 (nxt (row ++ [s]) b p i).2))), .sh (.tup (dI (row ++ [s]))), E']) M) ∨
    ((¬ ∃ i : Nat, look B (keyI (row ++ [s])) = some (.int i) ∧ i < min m (b.length + 1) ∧ above (dueOf m) r (row ++ [s]) (nxt (row ++ [s]) b p i).2 = false) ∧ ∃ E', ikIn [.sh (.int m), .sh (.int h), .sh (.int k), .sh (pD r), .sh (.loc l), .sh (gameD m h k gk), .ow (.dT SP), .sh (.tup (dI (row ++ [s]))), x8] M = .ok (.rt (.bl false), E') M) := by
  have hr0 : RowIn k row := fun x hx => hr x (List.mem_append_left _ hx)
  have sb := a.small hr0 hk (by omega)
  have dd : dI (row ++ [s]) = dI row ++ [D.int s] := by simp
  have cl : cutD (dI row ++ [D.int s]) none (some (-1)) = dI row := cut_last
  have kk := keysOf_dI row
  have ka := keysOf_app row s
  have li : gIx (.tup (dI row ++ [D.int s])) (.int (-1)) = some (.int s) := last_ix
  have vM : view M (.loc l) = .dT B := view_loc _ _ _ hM
  have ix0 : gIx (.dT SP) (.tup (dI row)) = some (spotD row as b p) := by
    show (keysOf (dI row)).bind (look SP) = _
    rw [kk]; exact hS
  have ni : gNotIn (.tup (dI row ++ [D.int s])) (.dT B) = some (.bl (!(B.any fun kv => decide (kv.1 = keyI (row ++ [s]))))) := by
    show (((keysOf (dI row ++ [D.int s])).map fun ks => D.bl (B.any fun kv => decide (kv.1 = ks)))).bind gNot = _
    rw [ka]; rfl
  have ixB : gIx (.dT B) (.tup (dI row ++ [D.int s])) = look B (keyI (row ++ [s])) := by
    show (keysOf (dI row ++ [D.int s])).bind (look B) = _
    rw [ka]; rfl
  have vt : ∀ M, view M (.tup (dI row ++ [D.int s])) = .tup (dI row ++ [D.int s]) := fun _ => rfl
  rw [dd]
  generalize hR : dI row ++ [D.int s] = R at *
  generalize hKR : keyI (row ++ [s]) = KR at *
  cases q : look B KR with
  | none =>
    have na := not_any q
    rw [na] at ni
    refine .inr ⟨fun ⟨i, z, _⟩ => (nomatch z), ?_⟩
    exact ⟨[.sh (.int m), .sh (.int h), .sh (.int k), .sh (pD r), .sh (.loc l), .sh (gameD m h k gk), .ow (.dT SP), .sh (.tup R), .sh (spotD row as b p)], by simp [ikIn, cl, ix0, vM, ni, -gIx]⟩
  | some d =>
    obtain ⟨w, rfl⟩ := hB d q
    have ya := any_of q
    rw [ya] at ni
    have em := e_mayS b m hm w M
    rw [q] at ixB
    by_cases c : 0 ≤ w ∧ w < (min m (b.length + 1) : Nat)
    · obtain ⟨i, rfl⟩ := Int.eq_ofNat_of_zero_le c.1
      have hi : i < min m (b.length + 1) := by have := c.2; omega
      rw [decide_eq_true c] at em
      have eb := e_behind_spot row as b p s i (by omega) (by omega) (by omega) (by omega) M
      have a' := nxt_at (s := s) a hi
      have eab := e_above (M := M) (as := as ++ [i]) (r := r) hm hk hh led hr (by rw [List.length_append, List.length_singleton]; omega) a'
      generalize hsp : spotD (row ++ [s]) (as ++ [i]) (nxt (row ++ [s]) b p i).1 (nxt (row ++ [s]) b p i).2 = sp at eb eab ⊢
      have kp : kPut (.tup R) sp (.dT SP) = some (.dT (J.put SP KR sp)) := by
        show (if SP.length < sizeMax then (keysOf R).map fun ks => Cell.dT (J.put SP ks sp) else none) = _
        rw [if_pos hSl, ka]; rfl
      have ix2 : gIx (.dT (J.put SP KR sp)) (.tup R) = some sp := by
        show (keysOf R).bind (look _) = _
        rw [ka]; exact look_put
      cases z : above (dueOf m) r (row ++ [s]) (nxt (row ++ [s]) b p i).2 with
      | false =>
        rw [z] at eab
        refine .inl ⟨i, .sh (spotD row as b p), ⟨rfl, hi, z⟩, ?_⟩
        rw [hsp]
        simp [ikIn, cl, ix0, vM, ni, ixB, em, v_spot, v_game, li, eb, kp, ix2, eab, -gIx, -kPut]
      | true =>
        rw [z] at eab
        refine .inr ⟨fun ⟨j, q1, _, q3⟩ => ?_, ?_⟩
        · have : (i : Int) = j := D.int.inj (Option.some.inj q1)
          have : i = j := by omega
          subst this
          rw [z] at q3; cases q3
        · exact ⟨[.sh (.int m), .sh (.int h), .sh (.int k), .sh (pD r), .sh (.loc l), .sh (gameD m h k gk), .ow (.dT (J.put SP KR sp)), .sh (.tup R), .sh (spotD row as b p)], by simp [ikIn, cl, ix0, vM, ni, ixB, em, v_spot, v_game, li, eb, kp, ix2, eab, -gIx, -kPut]⟩
    · rw [decide_eq_false c] at em
      refine .inr ⟨fun ⟨j, q1, q2, _⟩ => c ?_, ?_⟩
      · have : w = j := D.int.inj (Option.some.inj q1)
        omega
      · exact ⟨[.sh (.int m), .sh (.int h), .sh (.int k), .sh (pD r), .sh (.loc l), .sh (gameD m h k gk), .ow (.dT SP), .sh (.tup R), .sh (spotD row as b p)], by simp [ikIn, cl, ix0, vM, ni, ixB, em, v_spot, v_game, -gIx]⟩
end
end K82
namespace K82
open PySem J PM PG
theorem look_put_ne {κ : Type} [DecidableEq κ] {k k' : κ} {d : D} (h : k' ≠ k) : ∀ kvs : List (κ × D), look (J.put kvs k d) k' = look kvs k' := by
  intro kvs
  have go : ∀ l : List (κ × D), look (l.map fun kv => if kv.1 = k then (kv.1, d) else kv) k' = look l k' := by
    intro l
    induction l with
    | nil => rfl
    | cons p r ih =>
      unfold look at ih ⊢
      rw [List.map_cons, List.find?_cons, List.find?_cons]
      by_cases e : p.1 = k
      · have ne : ¬ p.1 = k' := fun q => h (q ▸ e)
        simp only [e, if_true]
        rw [e] at ne
        simp only [ne, decide_false]
        exact ih
      · simp only [e, if_false]
        by_cases e2 : p.1 = k'
        · simp [e2]
        · simp only [e2, decide_false]; exact ih
  unfold J.put
  split
  · exact go kvs
  · unfold look
    rw [List.find?_append]
    have : ([(k, d)] : List (κ × D)).find? (fun kv => decide (kv.1 = k')) = none := by
      rw [List.find?_eq_none]
      intro x hx
      rw [List.mem_singleton.mp hx]
      simpa using fun q => h q.symm
    rw [this, Option.or_none]
def mnIn : CS := sSeq (sAug 3 jMul (cV 1)) (sAug 2 jAdd (cV 3))
theorem e_mnLoop (h k : Int) (P R : Nat → Int) (hP : ∀ i, jMul (P i) k = some (P (i + 1))) (hR : ∀ i, R i + P (i + 1) = R (i + 1)) (M : Mem) : ∀ (n i : Nat) (x : Sl), ∃ x', forL (gN 4) mnIn (upFrom i n) [.sh (.int h), .sh (.int k), .sh (.int (R i)), .sh (.int (P i)), x] M = .ok (.nx, [.sh (.int h), .sh (.int k), .sh (.int (R (i + n))), .sh (.int (P (i + n))), x']) M
  | 0, i, x => ⟨x, rfl⟩
  | n + 1, i, x => by
    obtain ⟨x', e⟩ := e_mnLoop h k P R hP hR M n (i + 1) (.sh (.int i))
    refine ⟨x', ?_⟩
    rw [show i + 1 + n = i + (n + 1) by omega] at e
    rw [show (((i + 1 : Nat)) : Int) = (i : Int) + 1 by omega] at e
    rw [← e, upFrom, forL]
    have j : mnIn [.sh (.int h), .sh (.int k), .sh (.int (R i)), .sh (.int (P i)), .sh (.int i)] M = .ok (.nx, [.sh (.int h), .sh (.int k), .sh (.int (R (i + 1))), .sh (.int (P (i + 1))), .sh (.int i)]) M := by
      simp [mnIn, hP, hR]
    show (match mnIn [.sh (.int h), .sh (.int k), .sh (.int (R i)), .sh (.int (P i)), .sh (.int i)] M with | .ok (.nx, E) M => _ | .ok (.ct, E) M => _ | .ok (.bk, E) M => _ | r => r) = _
    rw [j]
theorem e_mnFn (h k : Int) (R P : Int) (hh : 0 ≤ h) (h6 : h ≤ 6) {x' : Sl} {M : Mem} (e : forL (gN 4) mnIn (upFrom 0 h.toNat) [.sh (.int h), .sh (.int k), .sh (.int 0), .sh (.int 1), .un] M = .ok (.nx, [.sh (.int h), .sh (.int k), .sh (.int R), .sh (.int P), x']) M) : F_many_rows [.int h, .int k] M = .ok (.int R) M := by
  have l0 : h.natAbs ≤ sizeMax := by unfold sizeMax; omega
  have sh : F_many_rows = body 5 2 (sSeq (sAsg (gN 2) (cC (.int 0))) (sSeq (sAsg (gN 3) (cC (.int 1))) (sSeq (sFor (iRng (cV 0)) (gN 4) mnIn) (sRet (cV 2))))) := rfl
  rw [sh]
  simp [l0, e]
theorem e_many (h k : Nat) (hk4 : k ≤ 4) (hh : h ≤ 6) (M : Mem) : F_many_rows [.int h, .int k] M = .ok (.int (rowsTo k h).length) M := by
  obtain ⟨x', e⟩ := e_mnLoop h k (fun i => ((k ^ i : Nat) : Int)) (fun i => ((rowsTo k i).length : Int)) (fun i => by
    have : small64 (k : Int) = true := sm64 (by omega) (by omega)
    show jMul ((k ^ i : Nat) : Int) (k : Int) = some (((k ^ (i + 1) : Nat)) : Int)
    rw [Nat.pow_succ, Int.natCast_mul]
    unfold jMul
    rw [this, Bool.or_true, if_pos rfl]) (fun i => by
    show ((rowsTo k i).length : Int) + ((k ^ (i + 1) : Nat) : Int) = ((rowsTo k (i + 1)).length : Int)
    rw [rowsTo, List.length_append, layer_len, Int.natCast_add]) M h 0 .un
  have e0 : ((k ^ 0 : Nat) : Int) = 1 := by rw [Nat.pow_zero]; rfl
  have e1 : (((rowsTo k 0).length : Nat) : Int) = 0 := rfl
  simp only [e0, e1, Nat.zero_add] at e
  exact e_mnFn h k _ _ (by omega) (by omega) e
theorem keyI_nodup {rs : List (List Int)} (h : rs.Nodup) : (rs.map keyI).Nodup := by
  rw [List.nodup_iff_pairwise_ne, List.pairwise_map]
  exact h.imp fun ne e => ne (keyI_inj e)
theorem inK_iff {B : List (List Key × D)} {row : List Int} : inK B row ↔ keyI row ∈ B.map (·.1) := by
  unfold inK
  rw [List.any_eq_true, List.mem_map]
  constructor
  · rintro ⟨x, hx, e⟩; exact ⟨x, hx, by simpa using e⟩
  · rintro ⟨x, hx, e⟩; exact ⟨x, hx, by simpa using e⟩
section
variable {m h k : Nat} {gk : List (List Key × D)} {r : Q}
theorem KB.length {B : List (List Key × D)} (x : KB m k h r B) (al : ∀ t, t ≠ [] → RowIn k t → t.length ≤ h → inK B t) : B.length = (rowsTo k h).length := by
  have h1 := len_sub x.nd fun y hy => by
    obtain ⟨p, hp, rfl⟩ := List.mem_map.mp hy
    exact x.sub p hp
  have h2 := len_sub (keyI_nodup (rowsTo_nodup k h)) fun y hy => by
    obtain ⟨row, hrow, rfl⟩ := List.mem_map.mp hy
    obtain ⟨a, b, c⟩ := (mem_rowsTo h row).mp hrow
    exact inK_iff.mp (al row a c b)
  rw [List.length_map, List.length_map] at h1 h2
  omega
/-- the keeper's book, looked up -/
theorem KB.at {B : List (List Key × D)} (x : KB m k h r B) {row : List Int} (i : inK B row) : look B (keyI row) = some (.int (PG.pk (dueOf m) m k h r row : Nat)) := x.rd.look i
/-- the loop on the keeper's own book -/
theorem e_ikLoopA (hm : 1 ≤ m) (hk : k ≤ 4) (hh : h ≤ 6) (hr2 : 0 < r.2) (k1 : 1 ≤ k) (hp : k ^ h ≤ 400) (led : Led m h k gk) {B : List (List Key × D)} {l : Nat} {M : Mem} (hM : M[l]? = some (.dT B)) (x : KB m k h r B) (al : ∀ t, t ≠ [] → RowIn k t → t.length ≤ h → inK B t) (g0 : gD m k h r [] [] 0 = true) :
    ∃ E', forL (gN 7) ikIn (rowsD (rowsTo k h)) [.sh (.int m), .sh (.int h), .sh (.int k), .sh (pD r), .sh (.loc l), .sh (gameD m h k gk), .ow (.dT [([], spotD [] [] [] 0)]), .un, .un] M = .ok (.nx, E') M := by
  have hd := due_dueOf hm
  have rl := rowsTo_len k1 hp h (Nat.le_refl _)
  obtain ⟨E', M', e, rfl, _⟩ := forL_run (g := gN 7) (s := ikIn) (fun row : List Int => D.tup (dI row))
    (fun i E M' => M' = M ∧ ∃ SP x7 x8, E = [.sh (.int m), .sh (.int h), .sh (.int k), .sh (pD r), .sh (.loc l), .sh (gameD m h k gk), .ow (.dT SP), x7, x8] ∧ SP.length ≤ i + 1 ∧ ∀ row, (row = [] ∨ ∃ j, j < i ∧ (rowsTo k h)[j]? = some row) → ∃ as : List Nat, as.length ≤ row.length ∧ look SP (keyI row) = some (spotD row as (pos m k h r row).1 (pos m k h r row).2))
    (rowsTo k h) 0 (fun i row E M' hrow ⟨eM, SP, x7, x8, hE, hl, hS⟩ => by
      subst eM hE
      rw [Nat.zero_add] at hl hS ⊢
      obtain ⟨row0, s, rfl, prev⟩ := rowsTo_prev h i row hrow
      obtain ⟨_, rl1, hr⟩ := (mem_rowsTo h _).mp (List.mem_of_getElem? hrow)
      rw [List.length_append, List.length_singleton] at rl1
      have hr0 : RowIn k row0 := fun x hx => hr x (List.mem_append_left _ hx)
      obtain ⟨as, hs, hS0⟩ := hS row0 prev
      obtain ⟨a, g⟩ := posK_good hd hm hr2 g0 hr0 (by omega)
      have hil : i < (rowsTo k h).length := (List.getElem?_eq_some_iff.mp hrow).1
      have inr := al (row0 ++ [s]) (by simp) hr (by rw [List.length_append, List.length_singleton]; omega)
      have lk := x.at inr
      obtain ⟨pk1, pk2⟩ := pk_ok hd hm hr2 g0 hr (by omega)
      rw [posK_app] at pk2
      have st := e_ikIn (r := r) (B := B) (SP := SP) (l := l) (M := M') hm hk hh led hM hr (by omega) a hs (fun d hd => by rw [lk] at hd; cases hd; exact ⟨_, rfl⟩) hS0 (by unfold sizeMax; omega) x8
      rcases st with ⟨i', E8, ⟨q1, q2, q3⟩, e⟩ | ⟨no, _⟩
      · refine ⟨_, _, M', rfl, .inl e, rfl, _, _, _, rfl, ?_, ?_⟩
        · have := put_len SP (keyI (row0 ++ [s])) (spotD (row0 ++ [s]) (as ++ [i']) (nxt (row0 ++ [s]) (pos m k h r row0).1 (pos m k h r row0).2 i').1 (nxt (row0 ++ [s]) (pos m k h r row0).1 (pos m k h r row0).2 i').2)
          exact Nat.le_trans this (by omega)
        · intro row' h'
          have ie : (PG.pk (dueOf m) m k h r (row0 ++ [s])) = i' := by
            rw [lk] at q1
            have := D.int.inj (Option.some.inj q1)
            omega
          by_cases z : row' = row0 ++ [s]
          · subst z
            refine ⟨as ++ [i'], by simp; omega, ?_⟩
            rw [look_put]
            unfold pos
            rw [posK_app, ie]
          · have h'' : row' = [] ∨ ∃ j, j < i ∧ (rowsTo k h)[j]? = some row' := by
              rcases h' with h' | ⟨j, hj, h'⟩
              · exact .inl h'
              · by_cases ji : j = i
                · subst ji
                  rw [hrow] at h'
                  exact absurd (Option.some.inj h').symm z
                · exact .inr ⟨j, by omega, h'⟩
            obtain ⟨as', hs', hS'⟩ := hS row' h''
            exact ⟨as', hs', by rw [look_put_ne (fun q => z (keyI_inj q))]; exact hS'⟩
      · exact absurd ⟨_, lk, pk1, pk2⟩ no) [.sh (.int m), .sh (.int h), .sh (.int k), .sh (pD r), .sh (.loc l), .sh (gameD m h k gk), .ow (.dT [([], spotD [] [] [] 0)]), .un, .un] M
    ⟨rfl, _, _, _, rfl, by simp, fun row h' => by
      rcases h' with rfl | ⟨j, hj, _⟩
      · exact ⟨[], by simp, rfl⟩
      · exact absurd hj (by omega)⟩
  exact ⟨E', e⟩
/-- the loop on a book of numbers: it returns False, or all rows are in it -/
theorem e_ikLoopC (hm : 1 ≤ m) (hk : k ≤ 4) (hh : h ≤ 6) (k1 : 1 ≤ k) (hp : k ^ h ≤ 400) (led : Led m h k gk) {B : List (List Key × D)} {l : Nat} {M : Mem} (hM : M[l]? = some (.dT B)) (hB : ∀ p ∈ B, ∃ w, p.2 = D.int w) :
    (∃ E', forL (gN 7) ikIn (rowsD (rowsTo k h)) [.sh (.int m), .sh (.int h), .sh (.int k), .sh (pD r), .sh (.loc l), .sh (gameD m h k gk), .ow (.dT [([], spotD [] [] [] 0)]), .un, .un] M = .ok (.rt (.bl false), E') M) ∨ ∀ row ∈ rowsTo k h, inK B row := by
  have rl := rowsTo_len k1 hp h (Nat.le_refl _)
  have lo := PB.forL_chk' (g := gN 7) (s := ikIn) (M := M) (fun row : List Int => D.tup (dI row)) (.bl false)
    (fun i E => ∃ SP x7 x8, E = [.sh (.int m), .sh (.int h), .sh (.int k), .sh (pD r), .sh (.loc l), .sh (gameD m h k gk), .ow (.dT SP), x7, x8] ∧ SP.length ≤ i + 1 ∧ (∀ row, (row = [] ∨ ∃ j, j < i ∧ (rowsTo k h)[j]? = some row) → ∃ (as b : List Nat) (p : Int), as.length ≤ row.length ∧ At m row b p ∧ look SP (keyI row) = some (spotD row as b p)) ∧ ∀ j row, j < i → (rowsTo k h)[j]? = some row → inK B row)
    (rowsTo k h) 0 (fun i row E hrow ⟨SP, x7, x8, hE, hl, hS, hI⟩ => by
      subst hE
      rw [Nat.zero_add] at hl hS hI ⊢
      obtain ⟨row0, s, rfl, prev⟩ := rowsTo_prev h i row hrow
      obtain ⟨_, rl1, hr⟩ := (mem_rowsTo h _).mp (List.mem_of_getElem? hrow)
      rw [List.length_append, List.length_singleton] at rl1
      obtain ⟨as, b, p, hs, a, hS0⟩ := hS row0 prev
      have hil : i < (rowsTo k h).length := (List.getElem?_eq_some_iff.mp hrow).1
      have st := e_ikIn (r := r) (B := B) (SP := SP) (l := l) (M := M) hm hk hh led hM hr (by omega) a hs (fun d hd => hB _ (look_mem hd)) hS0 (by unfold sizeMax; omega) x8
      rcases st with ⟨i', E8, ⟨q1, q2, q3⟩, e⟩ | ⟨no, E8, e⟩
      · refine ⟨_, _, rfl, .inl ⟨e, _, _, _, rfl, ?_, ?_, ?_⟩⟩
        · have := put_len SP (keyI (row0 ++ [s])) (spotD (row0 ++ [s]) (as ++ [i']) (nxt (row0 ++ [s]) b p i').1 (nxt (row0 ++ [s]) b p i').2)
          exact Nat.le_trans this (by omega)
        · intro row' h'
          by_cases z : row' = row0 ++ [s]
          · subst z
            exact ⟨as ++ [i'], _, _, by simp; omega, nxt_at (s := s) a q2, look_put⟩
          · have h'' : row' = [] ∨ ∃ j, j < i ∧ (rowsTo k h)[j]? = some row' := by
              rcases h' with h' | ⟨j, hj, h'⟩
              · exact .inl h'
              · by_cases ji : j = i
                · subst ji
                  rw [hrow] at h'
                  exact absurd (Option.some.inj h').symm z
                · exact .inr ⟨j, by omega, h'⟩
            obtain ⟨as', b', p', hs', a', hS'⟩ := hS row' h''
            exact ⟨as', b', p', hs', a', by rw [look_put_ne (fun q => z (keyI_inj q))]; exact hS'⟩
        · intro j row' hj hq
          by_cases ji : j = i
          · subst ji
            rw [hrow] at hq
            cases hq
            exact any_of q1
          · exact hI j row' (by omega) hq
      · exact ⟨_, _, rfl, .inr e⟩) [.sh (.int m), .sh (.int h), .sh (.int k), .sh (pD r), .sh (.loc l), .sh (gameD m h k gk), .ow (.dT [([], spotD [] [] [] 0)]), .un, .un]
    ⟨_, _, _, rfl, by simp, fun row h' => by
      rcases h' with rfl | ⟨j, hj, _⟩
      · exact ⟨[], [], 0, by simp, ⟨[], .nil⟩, rfl⟩
      · exact absurd hj (by omega), fun j row hj => absurd hj (by omega)⟩
  rcases lo with ⟨E', e, SP, x7, x8, _, _, _, hI⟩ | ⟨E', e⟩
  · refine .inr fun row hrow => ?_
    obtain ⟨j, hj⟩ := List.getElem?_of_mem hrow
    exact hI j row (by have := (List.getElem?_eq_some_iff.mp hj).1; omega) hj
  · exact .inl ⟨E', e⟩
end
end K82
namespace K82
open PySem J PM PG
section
variable {m h k : Nat} {r : Q}
theorem e_isk_true (hr : Rt r) (hm : 1 ≤ m) (hm4 : m ≤ 4) (h1 : 1 ≤ h) (hh : h ≤ 6) (k1 : 1 ≤ k) (hk : k ≤ 4) (hp : k ^ h ≤ 400) {B : List (List Key × D)} {l : Nat} {M : Mem} (hM : M[l]? = some (.dT B)) (x : KB m k h r B) (al : ∀ t, t ≠ [] → RowIn k t → t.length ≤ h → inK B t) (g0 : gD m k h r [] [] 0 = true) :
    F_is_keepers_book [.int m, .int h, .int k, pD r, .loc l] M = .ok (.bl true) M := by
  have c := e_check_ratio m h k hr hm hm4 h1 hh k1 hk hp M
  obtain ⟨gk, led, mk⟩ := e_mkGame m h k hm k1 hk hh hp M
  have mk2 := mk (aCons (cV 0) (aCons (cV 1) (aCons (cV 2) aNil))) [.sh (.int m), .sh (.int h), .sh (.int k), .sh (pD r), .sh (.loc l), .un, .un, .un, .un] (by simp)
  have en := e_many h k hk hh M
  have eb := e_begin M
  have er := e_rows_of h k k1 hk hh hp M
  have bl := x.length al
  obtain ⟨E', el⟩ := e_ikLoopA hm hk hh hr.d k1 hp led hM x al g0
  rw [ik_shape]
  generalize hmk : cMkN 3 4 F_Game___init__ (aCons (cV 0) (aCons (cV 1) (aCons (cV 2) aNil))) = mkC at mk2 ⊢
  generalize rowsD (rowsTo k h) = RS at er el
  generalize hmn : (rowsTo k h).length = n at *
  generalize hlp : ikIn = LP at el ⊢
  have l1 : 1 ≤ sizeMax := by decide
  have l0 : 0 ≤ sizeMax := by decide
  simp [c, hM, bl, en, mk2, eb, er, el, keysOf, J.cellOf, gNe]
theorem e_isk_false (hr : Rt r) (hm : 1 ≤ m) (hm4 : m ≤ 4) (h1 : 1 ≤ h) (hh : h ≤ 6) (k1 : 1 ≤ k) (hk : k ≤ 4) (hp : k ^ h ≤ 400) {B : List (List Key × D)} {l : Nat} {M : Mem} (hM : M[l]? = some (.dT B)) (hB : ∀ p ∈ B, ∃ w, p.2 = D.int w) (nd : (B.map (·.1)).Nodup) (i0 : inK B []) :
    F_is_keepers_book [.int m, .int h, .int k, pD r, .loc l] M = .ok (.bl false) M := by
  have c := e_check_ratio m h k hr hm hm4 h1 hh k1 hk hp M
  obtain ⟨gk, led, mk⟩ := e_mkGame m h k hm k1 hk hh hp M
  have mk2 := mk (aCons (cV 0) (aCons (cV 1) (aCons (cV 2) aNil))) [.sh (.int m), .sh (.int h), .sh (.int k), .sh (pD r), .sh (.loc l), .un, .un, .un, .un] (by simp)
  have en := e_many h k hk hh M
  have eb := e_begin M
  have er := e_rows_of h k k1 hk hh hp M
  rw [ik_shape]
  by_cases bl : B.length = (rowsTo k h).length
  · rcases e_ikLoopC (r := r) hm hk hh k1 hp led hM hB with ⟨E', el⟩ | all
    · generalize hmk : cMkN 3 4 F_Game___init__ (aCons (cV 0) (aCons (cV 1) (aCons (cV 2) aNil))) = mkC at mk2 ⊢
      generalize rowsD (rowsTo k h) = RS at er el
      generalize hmn : (rowsTo k h).length = n at *
      generalize hlp : ikIn = LP at el ⊢
      simp [c, hM, bl, en, mk2, eb, er, el, keysOf, J.cellOf, gNe]
    · exfalso
      have n2 : ([] :: rowsTo k h).Nodup := List.nodup_cons.mpr ⟨fun z => ((mem_rowsTo h []).mp z).1 rfl, rowsTo_nodup k h⟩
      have := len_sub (keyI_nodup n2) fun y hy => by
        obtain ⟨row, hrow, rfl⟩ := List.mem_map.mp hy
        rcases List.mem_cons.mp hrow with rfl | hrow
        · exact inK_iff.mp i0
        · exact inK_iff.mp (all row hrow)
      rw [List.length_map, List.length_map, List.length_cons] at this
      omega
  · have bl2 : ¬ ((B.length : Int) = (rowsTo k h).length) := by omega
    generalize (rowsTo k h).length = n at *
    simp [c, hM, bl, bl2, en, gNe]
/-! ## the law's check -/
def lrIn : CS := sExt (rOwn 5) (cComp [7] (iRng2 (cC (.int 1)) (c2 gAdd (cV 1) (cC (.int 1)))) (gN 7) tYes (c2 gAdd (cV 6) (cTup (aCons (cV 7) aNil))))
def lrOut : CS := (sSeq (sOwn 5 (cLst aNil)) (sSeq (sFor (iSeq (cV 3)) (gN 6) lrIn) (sSeq (sFrz 5) (sSeq (sAsg (gN 3) (cV 5)) (sExt (rOwn 2) (cV 3))))))
theorem lrows_shape : F__law_rows = body 8 2 (sSeq (sOwn 2 (cLst aNil)) (sSeq (sAsg (gN 3) (cLst (aCons (cTup aNil) aNil))) (sSeq (sFor (iRng (cV 0)) (gN 4) lrOut) (sSeq (sFrz 2) (sRet (cV 2)))))) := rfl
theorem rowsD_app (a b : List (List Int)) : rowsD (a ++ b) = rowsD a ++ rowsD b := List.map_append
theorem rowsD_len (a : List (List Int)) : (rowsD a).length = a.length := List.length_map ..
theorem e_lrIn (hk : k ≤ 4) {s0 s2 s3 s4 x7 : Sl} {ls : List (List Int)} {row : List Int} (hl : ls.length ≤ 3000) (hr : row.length ≤ 10) (M : Mem) :
    lrIn [s0, .sh (.int k), s2, s3, s4, .ow (.lst (rowsD ls)), .sh (.tup (dI row)), x7] M = .ok (.nx, [s0, .sh (.int k), s2, s3, s4, .ow (.lst (rowsD (ls ++ (sizes k).map fun s => row ++ [s]))), .sh (.tup (dI row)), x7]) M := by
  have l0 : 1 ≤ sizeMax := by decide
  have l1 : row.length + 1 ≤ sizeMax := by unfold sizeMax; omega
  have c1 := compL_map (vs := [7]) (g := gN 7) (f := c2 gAdd (cV 6) (cTup (aCons (cV 7) aNil))) (E := [s0, .sh (.int k), s2, s3, s4, .ow (.lst (rowsD ls)), .sh (.tup (dI row)), x7]) (M := M) D.int (fun s => D.tup (dI (row ++ [s]))) (sizes k) fun s hs => ⟨_, rfl, by simp [wipe, l0, l1]⟩
  have e : (sizes k).map (fun s => D.tup (dI (row ++ [s]))) = rowsD ((sizes k).map fun s => row ++ [s]) := by rw [rowsD, List.map_map]; rfl
  rw [e] at c1
  have l2 : (k + 1 : Int).natAbs ≤ sizeMax := by unfold sizeMax; omega
  have l3 : k ≤ sizeMax := by unfold sizeMax; omega
  have es := sizes_up k
  have l4 : (rowsD ls).length + (rowsD ((sizes k).map fun s => row ++ [s])).length ≤ sizeMax := by
    rw [rowsD_len, rowsD_len, List.length_map]; simp [sizes]; unfold sizeMax; omega
  rw [rowsD_app]
  generalize rowsD ((sizes k).map fun s => row ++ [s]) = X at *
  generalize hls : rowsD ls = Y at *
  generalize hrow : dI row = R at *
  generalize hfu : c2 gAdd (cV 6) (cTup (aCons (cV 7) aNil)) = fu at c1
  have sh : lrIn = sExt (rOwn 5) (cComp [7] (iRng2 (cC (.int 1)) (c2 gAdd (cV 1) (cC (.int 1)))) (gN 7) tYes fu) := by rw [← hfu]; rfl
  rw [sh]
  simp [l2, l3, l0, es, c1, l4]
theorem e_lrLoop (hk : k ≤ 4) {s0 s2 s3 s4 x7 : Sl} (M : Mem) : ∀ (rs ls : List (List Int)) (x6 : Sl), ls.length + rs.length * 4 ≤ 3000 → (∀ row ∈ rs, row.length ≤ 10) →
    ∃ x6', forL (gN 6) lrIn (rowsD rs) [s0, .sh (.int k), s2, s3, s4, .ow (.lst (rowsD ls)), x6, x7] M = .ok (.nx, [s0, .sh (.int k), s2, s3, s4, .ow (.lst (rowsD (ls ++ rs.flatMap fun row => (sizes k).map fun s => row ++ [s]))), x6', x7]) M
  | [], ls, x6, _, _ => ⟨x6, by rw [List.flatMap_nil, List.append_nil]; rfl⟩
  | row :: rs, ls, x6, hl, hr => by
    rw [List.length_cons] at hl
    have e := e_lrIn hk (s0 := s0) (s2 := s2) (s3 := s3) (s4 := s4) (x7 := x7) (ls := ls) (row := row) (by omega) (hr row List.mem_cons_self) M
    obtain ⟨x6', e2⟩ := e_lrLoop hk (s0 := s0) (s2 := s2) (s3 := s3) (s4 := s4) (x7 := x7) M rs (ls ++ (sizes k).map fun s => row ++ [s]) (.sh (.tup (dI row))) (by rw [List.length_append, List.length_map]; simp [sizes]; omega) fun y hy => hr y (List.mem_cons_of_mem _ hy)
    refine ⟨x6', ?_⟩
    rw [List.flatMap_cons, ← List.append_assoc, ← e2]
    show (match lrIn [s0, .sh (.int k), s2, s3, s4, .ow (.lst (rowsD ls)), .sh (.tup (dI row)), x7] M with | .ok (.nx, E) M => forL (gN 6) lrIn (rowsD rs) E M | .ok (.ct, E) M => forL (gN 6) lrIn (rowsD rs) E M | .ok (.bk, E) M => .ok (.nx, E) M | r => r) = _
    rw [e]
theorem e_law_rows (k1 : 1 ≤ k) (hk : k ≤ 4) (hh : h ≤ 6) (hp : k ^ h ≤ 400) (M : Mem) : F__law_rows [.int h, .int k] M = .ok (.lst (rowsD (rowsTo k h))) M := by
  obtain ⟨E', M', e1, rfl, x4, x5, x6, x7, rfl⟩ := forL_run (g := gN 4) (s := lrOut) (fun i : Nat => D.int (i : Int)) (fun i E M' => M' = M ∧ ∃ x4 x5 x6 x7, E = [.sh (.int h), .sh (.int k), .ow (.lst (rowsD (rowsTo k i))), .sh (.lst (rowsD (layer k i))), x4, x5, x6, x7]) (List.range h) 0
    (fun i x E M' hx ⟨hM, x4, x5, x6, x7, hE⟩ => by
      subst hM hE
      rw [Nat.zero_add]
      have hi : i < h := by
        have := (List.getElem?_eq_some_iff.mp hx).1
        rwa [List.length_range] at this
      have p : k ^ i ≤ k ^ h := Nat.pow_le_pow_right k1 (by omega)
      have p2 : k ^ (i + 1) ≤ k ^ h := Nat.pow_le_pow_right k1 (by omega)
      have hl : (layer k i).length ≤ 400 := by rw [layer_len]; omega
      have hl2 : (layer k (i + 1)).length ≤ 400 := by rw [layer_len]; omega
      obtain ⟨x6', e⟩ := e_lrLoop hk (s0 := .sh (.int h)) (s2 := .ow (.lst (rowsD (rowsTo k i)))) (s3 := .sh (.lst (rowsD (layer k i)))) (s4 := .sh (.int x)) (x7 := x7) M' (layer k i) [] x6 (by simp; omega) (fun row hr => by have := ((mem_layer i row).mp hr).1; omega)
      rw [List.nil_append] at e
      have e : forL (gN 6) lrIn (rowsD (layer k i)) [.sh (.int h), .sh (.int k), .ow (.lst (rowsD (rowsTo k i))), .sh (.lst (rowsD (layer k i))), .sh (.int x), .ow (.lst []), x6, x7] M' = .ok (.nx, [.sh (.int h), .sh (.int k), .ow (.lst (rowsD (rowsTo k i))), .sh (.lst (rowsD (layer k i))), .sh (.int x), .ow (.lst (rowsD (layer k (i + 1)))), x6', x7]) M' := e
      have rl := rowsTo_len k1 hp i (by omega)
      have l1 : (rowsD (rowsTo k i)).length + (rowsD (layer k (i + 1))).length ≤ sizeMax := by rw [rowsD_len, rowsD_len]; unfold sizeMax; omega
      have er : rowsD (rowsTo k (i + 1)) = rowsD (rowsTo k i) ++ rowsD (layer k (i + 1)) := by rw [rowsTo, rowsD_app]
      refine ⟨_, [.sh (.int h), .sh (.int k), .ow (.lst (rowsD (rowsTo k (i + 1)))), .sh (.lst (rowsD (layer k (i + 1)))), .sh (.int x), .sh (.lst (rowsD (layer k (i + 1)))), x6', x7], M', rfl, .inl ?_, rfl, _, _, _, _, rfl⟩
      rw [er]
      generalize rowsD (rowsTo k i) = A at *
      generalize rowsD (layer k (i + 1)) = B2 at *
      generalize rowsD (layer k i) = B1 at *
      simp [lrOut, J.cellOf, e, l1]) [.sh (.int h), .sh (.int k), .ow (.lst []), .sh (.lst [.tup []]), .un, .un, .un, .un] M ⟨rfl, .un, .un, .un, .un, rfl⟩
  rw [← upFrom0] at e1
  rw [List.length_range, Nat.zero_add] at e1
  have l0 : h ≤ sizeMax := by unfold sizeMax; omega
  have l1 : 1 ≤ sizeMax := by decide
  rw [lrows_shape]
  simp [l0, l1, e1, J.cellOf]
end
end K82
namespace K82
open PySem J PM PG
def lkIn : CS := (sSeq (sAsg (gT [(gN 9), (gN 8)]) (c2 gIx (oV 4) (cSl (cV 5) oNone (oSome (c1 gNeg (cC (.int 1))))))) (sSeq (sAsg (gN 6) (c2 gIx (cV 2) (cV 5))) (sSeq (sIf (tNot (tV (cCall0 (ifN 3 F__law_whole) (aCons (cV 6) (aCons (cC (.int 0)) (aCons (c2 gMin2 (c1 gLen (cV 9)) (c2 gSub (c2 gIx (cV 0) (cC (.int 0))) (cC (.int 1)))) aNil)))))) (sRet (cC (.bl false))) sNil) (sSeq (sAsg (gN 7) (cIf (tV (c2 gLt (cV 6) (c1 gLen (cV 9)))) (c2 gIx (cV 9) (cV 6)) (c2 gSub (c1 gLen (cV 5)) (cC (.int 1))))) (sSeq (sAsg (gN 8) (c2 gAdd (cV 8) (c1 gSum (cSl (cV 5) (oSome (cV 7)) oNone)))) (sSeq (sIf (tV (c2 gGt (c2 gMul (cV 8) (c2 gIx (cV 1) (cC (.int 1)))) (c2 gMul (c2 gIx (cV 1) (cC (.int 0))) (cCall0 (ifN 2 F__law_due) (aCons (cV 0) (aCons (cV 5) aNil)))))) (sRet (cC (.bl false))) sNil) (sPut (rOwn 4) (cV 5) (cTup (aCons (c2 gAdd (cSl (cV 9) oNone (oSome (cV 6))) (cTup (aCons (cV 7) aNil))) (aCons (cV 8) aNil))))))))))
theorem lk_shape : F__law_is_keepers = body 10 3 (sSeq (sAsg (gN 3) (cCall0 (ifN 2 F__law_rows) (aCons (c2 gIx (cV 0) (cC (.int 1))) (aCons (c2 gIx (cV 0) (cC (.int 2))) aNil)))) (sSeq (sIf (tOr (tNot (tV (cIsDT (cV 2)))) (tOr (tV (c2 gNe (cLenT (cV 2)) (c1 gLen (cV 3)))) (tNot (tV (c1 gAll (cComp [5] (iSeq (cV 3)) (gN 5) tYes (c2 gIn (cV 5) (cV 2)))))))) (sRet (cC (.bl false))) sNil) (sSeq (sOwn 4 (cDT1 (cTup aNil) (cTup (aCons (cTup aNil) (aCons (cC (.int 0)) aNil))))) (sSeq (sFor (iSeq (cV 3)) (gN 5) lkIn) (sRet (cC (.bl true))))))) := rfl
theorem e_whole (i a b : Int) (h1 : a ≤ i) (h2 : i ≤ b) (M : Mem) : F__law_whole [.int i, .int a, .int b] M = .ok (.bl true) M := by simp [F__law_whole, h1, h2]
section
variable {m h k : Nat} {r : Q} {c0 : Cell × Mem}
def standD (b : List Nat) (p : Int) : D := .tup [.tup (dN b), .int p]
theorem lm_at {kvs : List (List Key × D)} {j : Nat} {B : List (List Key × D)} (hT : c0.2[j]? = some (.dT B)) : (LM c0 kvs)[j + 2]? = some (.dT B) := hT
theorem e_lkIn (hm : 1 ≤ m) (hk : k ≤ 4) (hh : h ≤ 6) (k1 : 1 ≤ k) (hp : k ^ h ≤ 400) {B SP kvs : List (List Key × D)} {j : Nat} (hT : c0.2[j]? = some (.dT B)) (x : LD m h k kvs) {row : List Int} {s : Int} {b : List Nat} {p : Int} (hr : RowIn k (row ++ [s])) (hl : row.length < h) (a : At m row b p)
    {i : Nat} (hB : look B (keyI (row ++ [s])) = some (.int i)) (hi : i < min m (b.length + 1)) (na : above (dueOf m) r (row ++ [s]) (nxt (row ++ [s]) b p i).2 = false) (hS : look SP (keyI row) = some (standD b p)) (hSl : SP.length < sizeMax) (s3 x6 x7 x8 x9 : Sl) :
    ∃ y6 y7 y8 y9 kvs', lkIn [.sh (gameL m h k), .sh (pD r), .sh (.loc (j + 2)), s3, .ow (.dT SP), .sh (.tup (dI (row ++ [s]))), x6, x7, x8, x9] (LM c0 kvs) = .ok (.nx, [.sh (gameL m h k), .sh (pD r), .sh (.loc (j + 2)), s3, .ow (.dT (J.put SP (keyI (row ++ [s])) (standD (nxt (row ++ [s]) b p i).1 (nxt (row ++ [s]) b p i).2))), .sh (.tup (dI (row ++ [s]))), y6, y7, y8, y9]) (LM c0 kvs') ∧ LD m h k kvs' := by
  have hr0 : RowIn k row := fun x hx => hr x (List.mem_append_left _ hx)
  have sb := a.small hr0 hk (by omega)
  obtain ⟨kvs', ed, x'⟩ := e_due (c0 := c0) hm k1 hh hp hr (app_ne _ _) (by rw [List.length_append, List.length_singleton]; omega) x
  have dd : dI (row ++ [s]) = dI row ++ [D.int s] := by simp
  have cl : cutD (dI row ++ [D.int s]) none (some (-1)) = dI row := cut_last
  have kk := keysOf_dI row
  have ka := keysOf_app row s
  have vM : view (LM c0 kvs) (.loc (j + 2)) = .dT B := view_loc _ _ _ (lm_at hT)
  have ix0 : gIx (.dT SP) (.tup (dI row)) = some (standD b p) := by
    show (keysOf (dI row)).bind (look SP) = _
    rw [kk]; exact hS
  have ixB : gIx (.dT B) (.tup (dI row ++ [D.int s])) = some (.int i) := by
    show (keysOf (dI row ++ [D.int s])).bind (look B) = _
    rw [ka]; exact hB
  have wh := e_whole i 0 (min (b.length : Int) ((m : Int) - 1)) (by omega) (by omega)
  have a' := nxt_at (s := s) a hi
  have sb' := a'.small hr hk (by rw [List.length_append, List.length_singleton]; omega)
  have sd := (due_dueOf hm).sm (app_ne row s) a' hr hk (by rw [List.length_append, List.length_singleton]; omega)
  have ln : ((row ++ [s]).length : Int) - 1 = row.length := by rw [List.length_append, List.length_singleton]; omega
  have lR : (dI row ++ [D.int s]).length = row.length + 1 := by simp
  obtain ⟨g0, g1, g2⟩ := gEl (m := m) (h := h) (k := k)
  have nx1 : (nxt (row ++ [s]) b p i).1 = b.take i ++ [(b ++ [row.length]).getD i 0] := by unfold nxt; simp
  have nx2 : (nxt (row ++ [s]) b p i).2 = p + ((row ++ [s]).drop ((b ++ [row.length]).getD i 0)).sum := by unfold nxt; simp
  generalize hg : (b ++ [row.length]).getD i 0 = g at nx1 nx2
  have e5 : cutD (dI row ++ [D.int s]) (some (g : Int)) none = (dI row ++ [D.int s]).drop g := cutD_lo
  have e6 : gSum (.tup ((dI row ++ [D.int s]).drop g)) = some (.int ((row ++ [s]).drop g).sum) := by
    rw [← dd, ← List.map_drop]; exact gSum_tup _
  have e7 : dN (b.take i) ++ [D.int g] = dN (b.take i ++ [g]) := dN_snoc _ _
  have ct := cut_take b i
  have l0 : 1 ≤ sizeMax := by decide
  have l2 : 2 ≤ sizeMax := by decide
  have l1 : min i b.length + 1 ≤ sizeMax := by unfold sizeMax; omega
  have lt : (dN (b.take i)).length = min i b.length := by simp
  rw [nx1, nx2]
  rw [nx2] at na sd sb'
  generalize hq : p + ((row ++ [s]).drop g).sum = q at *
  have m1 : gMul (.int q) (.int r.2) = some (.int (q * r.2)) := gm_sm sb'.1 sb'.2.1
  have m2 := gMul_int r.1 (dueOf m (row ++ [s])) (.inr (sm64 (by have := sd.2.2.1; omega) sd.2.2.2))
  have nb : ¬ r.1 * dueOf m (row ++ [s]) < q * r.2 := by
    intro z
    have : above (dueOf m) r (row ++ [s]) q = true := by
      unfold above more
      simp
      exact z
    rw [this] at na; cases na
  have kp : ∀ d, kPut (.tup (dI row ++ [D.int s])) d (.dT SP) = some (.dT (J.put SP (keyI (row ++ [s])) d)) := fun d => by
    show (if SP.length < sizeMax then (keysOf (dI row ++ [D.int s])).map fun ks => Cell.dT (J.put SP ks d) else none) = _
    rw [if_pos hSl, ka]; rfl
  have rq0 : gIx (.tup [.int r.1, .int r.2]) (.int 0) = some (.int r.1) := rfl
  have rq1 : gIx (.tup [.int r.1, .int r.2]) (.int 1) = some (.int r.2) := rfl
  have r0 : ∀ M, view M (pD r) = .tup [.int r.1, .int r.2] := fun _ => rfl
  rw [dd] at ed ⊢
  generalize hKR : keyI (row ++ [s]) = KR at *
  generalize hR : dI row ++ [D.int s] = R at *
  generalize hdu : dueOf m (row ++ [s]) = du at *
  generalize hB2 : dN (b.take i ++ [g]) = B2 at *
  generalize hT2 : dN (b.take i) = T2 at *
  have sdD : standD (b.take i ++ [g]) q = .tup [.tup B2, .int q] := by unfold standD; rw [hB2]
  have sd0 : standD b p = .tup [.tup (dN b), .int p] := rfl
  rw [sdD]
  by_cases z : i < b.length
  · have gi : (b ++ [row.length]).getD i 0 = b[i] := by rw [List.getD_eq_getElem?_getD, List.getElem?_append_left z, List.getElem?_eq_getElem z]; rfl
    have gi : b[i] = g := by rw [← gi]; exact hg
    have ixb : gIx (.tup (dN b)) (.int i) = some (.int g) := by
      show (ixN (dN b).length i).bind (fun j => (dN b)[j]?) = _
      rw [show (dN b).length = b.length by simp, ixN_nat b.length i z]
      simp [z, gi]
    refine ⟨.sh (.int i), .sh (.int g), .sh (.int q), .sh (.tup (dN b)), kvs', ?_, x'⟩
    simp [lkIn, cl, ix0, sd0, vM, ixB, view_gl, g0, wh, z, ixb, e5, e6, hq, r0, rq0, rq1, m1, ed, m2, nb, ct, l0, l1, l2, lt, e7, kp, hT2, -gIx, -kPut]
  · have zi : i = b.length := by omega
    have gi : g = row.length := by
      rw [← hg, List.getD_eq_getElem?_getD, List.getElem?_append_right (by omega), zi]; simp
    subst gi
    have hq2 : p + s = q := by rw [← hq]; simp
    refine ⟨.sh (.int i), .sh (.int row.length), .sh (.int q), .sh (.tup (dN b)), kvs', ?_, x'⟩
    simp [lkIn, cl, ix0, sd0, vM, ixB, view_gl, g0, wh, z, e5, e6, hq2, r0, rq0, rq1, m1, ed, m2, nb, ct, l0, l1, l2, lt, lR, e7, kp, hT2, -gIx, -kPut]
end
end K82
namespace K82
open PySem J PM PG
section
variable {m h k : Nat} {r : Q} {c0 : Cell × Mem}
theorem e_lkLoop (hm : 1 ≤ m) (hk : k ≤ 4) (hh : h ≤ 6) (hr2 : 0 < r.2) (k1 : 1 ≤ k) (hp : k ^ h ≤ 400) {B kvs : List (List Key × D)} {j : Nat} (hT : c0.2[j]? = some (.dT B)) (xl : LD m h k kvs) (x : KB m k h r B) (al : ∀ t, t ≠ [] → RowIn k t → t.length ≤ h → inK B t) (g0 : gD m k h r [] [] 0 = true) (s3 : Sl) :
    ∃ E' kvs', forL (gN 5) lkIn (rowsD (rowsTo k h)) [.sh (gameL m h k), .sh (pD r), .sh (.loc (j + 2)), s3, .ow (.dT [([], standD [] 0)]), .un, .un, .un, .un, .un] (LM c0 kvs) = .ok (.nx, E') (LM c0 kvs') ∧ LD m h k kvs' := by
  have hd := due_dueOf hm
  have rl := rowsTo_len k1 hp h (Nat.le_refl _)
  obtain ⟨E', M', e, kvs', ST, y6, y7, y8, y9, x5, rfl, xl', _⟩ := forL_run (g := gN 5) (s := lkIn) (fun row : List Int => D.tup (dI row))
    (fun i E M' => ∃ kvs' ST x6 x7 x8 x9 x5, M' = LM c0 kvs' ∧ LD m h k kvs' ∧ E = [.sh (gameL m h k), .sh (pD r), .sh (.loc (j + 2)), s3, .ow (.dT ST), x5, x6, x7, x8, x9] ∧ ST.length ≤ i + 1 ∧ ∀ row, (row = [] ∨ ∃ j, j < i ∧ (rowsTo k h)[j]? = some row) → look ST (keyI row) = some (standD (pos m k h r row).1 (pos m k h r row).2))
    (rowsTo k h) 0 (fun i row E M' hrow ⟨kvs', ST, x6, x7, x8, x9, x5, eM, xl', hE, hl, hS⟩ => by
      subst eM hE
      rw [Nat.zero_add] at hl hS ⊢
      obtain ⟨row0, s, rfl, prev⟩ := rowsTo_prev h i row hrow
      obtain ⟨_, rl1, hr⟩ := (mem_rowsTo h _).mp (List.mem_of_getElem? hrow)
      rw [List.length_append, List.length_singleton] at rl1
      have hr0 : RowIn k row0 := fun x hx => hr x (List.mem_append_left _ hx)
      obtain ⟨a, g⟩ := posK_good hd hm hr2 g0 hr0 (by omega)
      have hil : i < (rowsTo k h).length := (List.getElem?_eq_some_iff.mp hrow).1
      have inr := al (row0 ++ [s]) (by simp) hr (by rw [List.length_append, List.length_singleton]; omega)
      have lk := x.at inr
      obtain ⟨pk1, pk2⟩ := pk_ok hd hm hr2 g0 hr (by omega)
      rw [posK_app] at pk2
      obtain ⟨z6, z7, z8, z9, kvs2, e, xl2⟩ := e_lkIn (r := r) (B := B) (SP := ST) (c0 := c0) hm hk hh k1 hp hT xl' hr (by omega) a lk pk1 pk2 (hS row0 prev) (by unfold sizeMax; omega) s3 x6 x7 x8 x9
      refine ⟨_, _, _, rfl, .inl e, kvs2, _, z6, z7, z8, z9, _, rfl, xl2, rfl, ?_, ?_⟩
      · exact Nat.le_trans (put_len ST _ _) (by omega)
      · intro row' h'
        by_cases z : row' = row0 ++ [s]
        · subst z
          rw [look_put]
          unfold pos
          rw [posK_app]
        · have h'' : row' = [] ∨ ∃ j, j < i ∧ (rowsTo k h)[j]? = some row' := by
            rcases h' with h' | ⟨j, hj, h'⟩
            · exact .inl h'
            · by_cases ji : j = i
              · subst ji
                rw [hrow] at h'
                exact absurd (Option.some.inj h').symm z
              · exact .inr ⟨j, by omega, h'⟩
          rw [look_put_ne (fun q => z (keyI_inj q))]; exact hS row' h'') [.sh (gameL m h k), .sh (pD r), .sh (.loc (j + 2)), s3, .ow (.dT [([], standD [] 0)]), .un, .un, .un, .un, .un] (LM c0 kvs)
    ⟨kvs, _, _, _, _, _, _, rfl, xl, rfl, by simp, fun row h' => by
      rcases h' with rfl | ⟨j, hj, _⟩
      · rfl
      · exact absurd hj (by omega)⟩
  exact ⟨E', kvs', e, xl'⟩
theorem gAll_trues (n : Nat) : gAll (.lst (List.replicate n (.bl true))) = some (.bl true) := gAll_rep n
theorem e_law_ik (hm : 1 ≤ m) (hk : k ≤ 4) (hh : h ≤ 6) (hr2 : 0 < r.2) (k1 : 1 ≤ k) (hp : k ^ h ≤ 400) {B kvs : List (List Key × D)} {j : Nat} (hT : c0.2[j]? = some (.dT B)) (xl : LD m h k kvs) (x : KB m k h r B) (al : ∀ t, t ≠ [] → RowIn k t → t.length ≤ h → inK B t) (g0 : gD m k h r [] [] 0 = true) :
    ∃ kvs', F__law_is_keepers [gameL m h k, pD r, .loc (j + 2)] (LM c0 kvs) = .ok (.bl true) (LM c0 kvs') ∧ LD m h k kvs' := by
  obtain ⟨E', kvs', e, xl'⟩ := e_lkLoop (c0 := c0) hm hk hh hr2 k1 hp hT xl x al g0 (.sh (.lst (rowsD (rowsTo k h))))
  refine ⟨kvs', ?_, xl'⟩
  have er := e_law_rows (h := h) (k := k) k1 hk hh hp (LM c0 kvs)
  have bl := x.length al
  obtain ⟨g0', g1, g2⟩ := gEl (m := m) (h := h) (k := k)
  have hM : (LM c0 kvs)[j + 2]? = some (.dT B) := lm_at hT
  have vM : view (LM c0 kvs) (.loc (j + 2)) = .dT B := view_loc _ _ _ hM
  have rl := rowsD_len (rowsTo k h)
  have c := compL_map (vs := [5]) (g := gN 5) (f := c2 gIn (cV 5) (cV 2)) (E := [.sh (gameL m h k), .sh (pD r), .sh (.loc (j + 2)), .sh (.lst (rowsD (rowsTo k h))), .un, .un, .un, .un, .un, .un]) (M := LM c0 kvs) (fun row : List Int => D.tup (dI row)) (fun _ => D.bl true) (rowsTo k h) fun row hrow => by
    obtain ⟨a, b, c⟩ := (mem_rowsTo h row).mp hrow
    have ya : (B.any fun kv => decide (kv.1 = keyI row)) = true := al row a c b
    have gi : gIn (.tup (dI row)) (.dT B) = some (.bl true) := by
      show (keysOf (dI row)).map (fun ks => D.bl (B.any fun kv => decide (kv.1 = ks))) = _
      rw [keysOf_dI]
      show some (D.bl (B.any fun kv => decide (kv.1 = keyI row))) = _
      rw [ya]
    refine ⟨_, rfl, ?_⟩
    generalize hR : dI row = R at *
    simp [wipe, vM, gi]
  rw [List.map_const'] at c
  have c : compL [5] (gN 5) tYes (c2 gIn (cV 5) (cV 2)) (rowsD (rowsTo k h)) [.sh (gameL m h k), .sh (pD r), .sh (.loc (j + 2)), .sh (.lst (rowsD (rowsTo k h))), .un, .un, .un, .un, .un, .un] (LM c0 kvs) = .ok (List.replicate (rowsTo k h).length (.bl true)) (LM c0 kvs) := c
  have ga := gAll_trues (rowsTo k h).length
  have e : forL (gN 5) lkIn (rowsD (rowsTo k h)) [.sh (gameL m h k), .sh (pD r), .sh (.loc (j + 2)), .sh (.lst (rowsD (rowsTo k h))), .ow (.dT [([], .tup [.tup [], .int 0])]), .un, .un, .un, .un, .un] (LM c0 kvs) = .ok (.nx, E') (LM c0 kvs') := e
  have l2 : 2 ≤ sizeMax := by decide
  have l1 : 1 ≤ sizeMax := by decide
  rw [lk_shape]
  generalize hRS : rowsD (rowsTo k h) = RS at *
  generalize (rowsTo k h).length = n at *
  generalize lkIn = LP at e ⊢
  generalize hgi : c2 gIn (cV 5) (cV 2) = GI at c ⊢
  generalize hMM : LM c0 kvs = MM at *
  simp [er, g1, g2, view_gl, hM, bl, gNe, rl, c, ga, keysOf, J.cellOf, l1, l2, e, -gIx]
end
end K82
namespace K82
open PySem J PM PG
section
variable {m h k : Nat} {gk : List (List Key × D)} {r : Q}
noncomputable abbrev FEm (m k h : Nat) (r : Q) (n : Nat) (row : List Int) (as b : List Nat) (p : Int) : List (List Nat × Int) := FE (dueOf m) m k h r n row as b p
def ent (e : List Nat × Int) : List Key × D := (keyN e.1, .int e.2)
def fresh (kvs : List (List Key × D)) (as : List Nat) : Prop := ∀ q ∈ kvs, ∀ t, q.1 ≠ keyN (as ++ t)
theorem fresh.any {kvs : List (List Key × D)} {as : List Nat} (f : fresh kvs as) : (kvs.any fun kv => decide (kv.1 = keyN as)) = false := by
  cases q : kvs.any fun kv => decide (kv.1 = keyN as) with
  | false => rfl
  | true =>
    obtain ⟨x, hx, e⟩ := List.any_eq_true.mp q
    have e : x.1 = keyN as := by simpa using e
    exact absurd (by rw [List.append_nil]; exact e) (f x hx [])
def fgTurn (rr : Fn) : CS := sExpr (cMethN 3 4 rr (cV 0) (aCons (cV 6) (aCons (cV 2) (aCons (cV 3) aNil))))
def fgIn (rr : Fn) : CS := sSeq (sAsg (gN 5) (cComp [7] (iSeq (cMethN 3 2 F_Game_answers_at (cV 0) (aCons (cV 1) aNil))) (gN 7) tYes (cMethN 2 3 F_Spot_behind (cV 1) (aCons (cV 4) (aCons (cV 7) aNil))))) (sIf (tAnd (tV (c2 gLt (c1 gLen (c1 (gFld 2 0) (cV 1))) (c1 (gFld 3 1) (cV 0)))) (tNot (tV (c1 gAny (cComp [6] (iSeq (cV 5)) (gN 6) tYes (cMethN 3 3 F_Game_holds (cV 0) (aCons (cV 6) (aCons (cV 2) aNil)))))))) (sSeq (sPut (rLoc (cV 3)) (c1 (gFld 2 1) (cV 1)) (cV 4)) (sSeq (sFor (iSeq (cV 5)) (gN 6) (fgTurn rr)) sRetN)) sNil)
theorem fg_shape (n : Nat) : F_Game_foe_goes (n + 1) = body 8 4 (sSeq (sIf (tV (cMethN 3 3 F_Game_is_above (cV 0) (aCons (cV 1) (aCons (cV 2) aNil)))) (sSeq (sPut (rLoc (cV 3)) (c1 (gFld 2 1) (cV 1)) (cC (.int 0))) sRetN) sNil) (sFor (iSeq (c1 (gFld 3 2) (cV 0))) (gN 4) (fgIn (F_Game_foe_goes n)))) := rfl
theorem gAny_lst (ns : List Bool) : gAny (.lst (ns.map D.bl)) = some (.bl (ns.any id)) := by simp [gAny]
def FgOk (m k h : Nat) (r : Q) (gk : List (List Key × D)) (rr : Fn) (N : Nat) : Prop := ∀ (row : List Int) (as b : List Nat) (p : Int) (l : Nat) (kvs : List (List Key × D)) (M : Mem), RowIn k row → row.length ≤ h → h - row.length < N → At m row b p → as.length ≤ row.length → gD m k h r row b p = false →
  M[l]? = some (.dT kvs) → fresh kvs as → kvs.length + 2 * 4 ^ (h - row.length) ≤ sizeMax + 1 →
  rr [gameD m h k gk, spotD row as b p, pD r, .loc l] M = .ok .non (M.set l (.dT (kvs ++ (FEm m k h r (h - row.length + 1) row as b p).map ent)))
/-- the spots behind -/
def laterD (row : List Int) (as b : List Nat) (p s : Int) (is : List Nat) : List D := is.map fun i => spotD (row ++ [s]) (as ++ [i]) (nxt (row ++ [s]) b p i).1 (nxt (row ++ [s]) b p i).2
theorem e_later (hm : 1 ≤ m) (hm4 : m ≤ 4) {row : List Int} {as b : List Nat} {p s : Int} (hb : b.length ≤ 100) (hr : row.length ≤ 100) (hs : as.length ≤ 100) (s2 s3 x5 x6 x7 : Sl) (M : Mem) :
    compL [7] (gN 7) tYes (cMethN 2 3 F_Spot_behind (cV 1) (aCons (cV 4) (aCons (cV 7) aNil))) (dN (List.range (min m (b.length + 1)))) [.sh (gameD m h k gk), .sh (spotD row as b p), s2, s3, .sh (.int s), x5, x6, x7] M = .ok (laterD row as b p s (List.range (min m (b.length + 1)))) M :=
  compL_map (fun i : Nat => D.int (i : Int)) (fun i => spotD (row ++ [s]) (as ++ [i]) (nxt (row ++ [s]) b p i).1 (nxt (row ++ [s]) b p i).2) (List.range (min m (b.length + 1))) fun i hi => by
    have him := List.mem_range.mp hi
    have eb := e_behind_spot row as b p s i (by omega) hb hr hs M
    exact ⟨_, rfl, by simp [wipe, v_spot, eb]⟩
theorem e_holdsAll (hm : 1 ≤ m) (hm4 : m ≤ 4) (hk : k ≤ 4) (hh : h ≤ 6) (hr2 : 0 < r.2) (led : Led m h k gk) {row : List Int} {as b : List Nat} {p s : Int} (hr : RowIn k row) (hl : row.length < h) (a : At m row b p) (hs : as.length ≤ row.length) (hsz : s ∈ sizes k) (s1 s3 s4 s5 x6 x7 : Sl) (M : Mem) :
    compL [6] (gN 6) tYes (cMethN 3 3 F_Game_holds (cV 0) (aCons (cV 6) (aCons (cV 2) aNil))) (laterD row as b p s (List.range (min m (b.length + 1)))) [.sh (gameD m h k gk), s1, .sh (pD r), s3, s4, s5, x6, x7] M =
      .ok (((List.range (min m (b.length + 1))).map fun i => gD m k h r (row ++ [s]) (nxt (row ++ [s]) b p i).1 (nxt (row ++ [s]) b p i).2).map D.bl) M := by
  rw [List.map_map]
  exact compL_map (fun i => spotD (row ++ [s]) (as ++ [i]) (nxt (row ++ [s]) b p i).1 (nxt (row ++ [s]) b p i).2) (fun i => D.bl (gD m k h r (row ++ [s]) (nxt (row ++ [s]) b p i).1 (nxt (row ++ [s]) b p i).2)) (List.range (min m (b.length + 1))) fun i hi => by
    have him := List.mem_range.mp hi
    have eh := e_holds (M := M) (as := as ++ [i]) hm hm4 hk hh hr2 led (hr.app hsz) (by rw [List.length_append, List.length_singleton]; omega) (nxt_at (s := s) a him) (by simp; omega)
    generalize hsp : spotD (row ++ [s]) (as ++ [i]) (nxt (row ++ [s]) b p i).1 (nxt (row ++ [s]) b p i).2 = sp at eh ⊢
    exact ⟨_, rfl, by simp [wipe, v_game, eh]⟩
theorem e_fgTurns (hm4 : m ≤ 4) {rr : Fn} {N : Nat} (IH : FgOk m k h r gk rr N) {row : List Int} {as b : List Nat} {p s : Int} (hr : RowIn k (row ++ [s])) (hl : row.length < h) (hN : h - row.length < N + 1) (a : At m row b p) (hs : as.length ≤ row.length) (bad : ∀ i, i < min m (b.length + 1) → gD m k h r (row ++ [s]) (nxt (row ++ [s]) b p i).1 (nxt (row ++ [s]) b p i).2 = false) (l : Nat) (s1 s4 s5 s7 : Sl) :
    ∀ (is : List Nat) (kvs : List (List Key × D)) (M : Mem) (x6 : Sl), M[l]? = some (.dT kvs) → (∀ i ∈ is, i < min m (b.length + 1)) → is.Nodup → (∀ i ∈ is, fresh kvs (as ++ [i])) →
    kvs.length + is.length * (2 * 4 ^ (h - row.length - 1) - 1) ≤ sizeMax →
    ∃ x6', forL (gN 6) (fgTurn rr) (laterD row as b p s is) [.sh (gameD m h k gk), s1, .sh (pD r), .sh (.loc l), s4, s5, x6, s7] M = .ok (.nx, [.sh (gameD m h k gk), s1, .sh (pD r), .sh (.loc l), s4, s5, x6', s7]) (M.set l (.dT (kvs ++ (is.flatMap fun i => FEm m k h r (h - row.length) (row ++ [s]) (as ++ [i]) (nxt (row ++ [s]) b p i).1 (nxt (row ++ [s]) b p i).2).map ent)))
  | [], kvs, M, x6, hM, _, _, _, _ => ⟨x6, by rw [List.flatMap_nil, List.map_nil, List.append_nil, set_same hM]; rfl⟩
  | i :: is, kvs, M, x6, hM, hi, nd, fr, lt => by
    have him := hi i List.mem_cons_self
    obtain ⟨nd1, nd2⟩ := List.nodup_cons.mp nd
    have U0 : 1 ≤ 4 ^ (h - row.length - 1) := Nat.pow_pos (by decide)
    have U1 : 4 ^ (h - row.length) = 4 * 4 ^ (h - row.length - 1) := by rw [Nat.mul_comm, ← Nat.pow_succ, show (h - row.length - 1).succ = h - row.length by omega]
    have fl := FE_len (due := dueOf m) (k := k) (h := h) (r := r) hm4 (h - row.length) (row ++ [s]) (as ++ [i]) (nxt (row ++ [s]) b p i).1 (nxt (row ++ [s]) b p i).2
    rw [List.length_cons, Nat.add_mul, Nat.one_mul] at lt
    have hl' : (row ++ [s]).length = row.length + 1 := by rw [List.length_append, List.length_singleton]
    have e := IH (row ++ [s]) (as ++ [i]) (nxt (row ++ [s]) b p i).1 (nxt (row ++ [s]) b p i).2 l kvs M hr (by omega) (by omega) (nxt_at (s := s) a him) (by rw [hl', List.length_append, List.length_singleton]; omega) (bad i him) hM (fr i List.mem_cons_self) (by rw [show h - (row ++ [s]).length = h - row.length - 1 by omega]; omega)
    rw [show h - (row ++ [s]).length + 1 = h - row.length by omega] at e
    obtain ⟨x6', e2⟩ := e_fgTurns hm4 IH hr hl hN a hs bad l s1 s4 s5 s7 is _ _ (.sh (spotD (row ++ [s]) (as ++ [i]) (nxt (row ++ [s]) b p i).1 (nxt (row ++ [s]) b p i).2)) (get_set (c' := .dT (kvs ++ (FEm m k h r (h - row.length) (row ++ [s]) (as ++ [i]) (nxt (row ++ [s]) b p i).1 (nxt (row ++ [s]) b p i).2).map ent)) hM) (fun j hj => hi j (List.mem_cons_of_mem _ hj)) nd2 (fun j hj q hq t => by
        rcases List.mem_append.mp hq with z | z
        · exact fr j (List.mem_cons_of_mem _ hj) q z t
        · obtain ⟨e, he, rfl⟩ := List.mem_map.mp z
          obtain ⟨u, hu⟩ := FE_pre _ _ _ _ _ e he
          intro w
          have w : keyN e.1 = keyN (as ++ [j] ++ t) := w
          have w := keyN_inj w
          rw [hu] at w
          have : i = j ∧ u = t := by simpa using w
          exact nd1 (this.1 ▸ hj)) (by rw [List.length_append, List.length_map]; unfold FEm; omega)
    refine ⟨x6', ?_⟩
    rw [List.set_set, List.append_assoc, ← List.map_append] at e2
    rw [List.flatMap_cons, ← e2]
    generalize hsp : spotD (row ++ [s]) (as ++ [i]) (nxt (row ++ [s]) b p i).1 (nxt (row ++ [s]) b p i).2 = sp at e
    have t : fgTurn rr [.sh (gameD m h k gk), s1, .sh (pD r), .sh (.loc l), s4, s5, .sh sp, s7] M = .ok (.nx, [.sh (gameD m h k gk), s1, .sh (pD r), .sh (.loc l), s4, s5, .sh sp, s7]) (M.set l (.dT (kvs ++ (FEm m k h r (h - row.length) (row ++ [s]) (as ++ [i]) (nxt (row ++ [s]) b p i).1 (nxt (row ++ [s]) b p i).2).map ent))) := by
      simp [fgTurn, v_game, e]
    have el : laterD row as b p s (i :: is) = sp :: laterD row as b p s is := by rw [← hsp]; rfl
    rw [el]
    show (match fgTurn rr [.sh (gameD m h k gk), s1, .sh (pD r), .sh (.loc l), s4, s5, .sh sp, s7] M with | .ok (.nx, E) M => forL (gN 6) (fgTurn rr) (laterD row as b p s is) E M | .ok (.ct, E) M => forL (gN 6) (fgTurn rr) (laterD row as b p s is) E M | .ok (.bk, E) M => .ok (.nx, E) M | r => r) = _
    rw [t, ← hsp]
/-- a size that the foe does not go on with, and one that it does -/
theorem e_fgIn (hm : 1 ≤ m) (hm4 : m ≤ 4) (hk : k ≤ 4) (hh : h ≤ 6) (hr2 : 0 < r.2) (led : Led m h k gk) {rr : Fn} {N : Nat} (IH : FgOk m k h r gk rr N) {row : List Int} {as b : List Nat} {p s : Int} (hr : RowIn k row) (hl : row.length < h) (hN : h - row.length < N + 1) (a : At m row b p) (hs : as.length ≤ row.length) (hsz : s ∈ sizes k) (l : Nat) (x5 x6 x7 : Sl) (kvs : List (List Key × D)) (M : Mem) (hM : M[l]? = some (.dT kvs)) (fr : fresh kvs as)
    (lt : kvs.length + 2 * 4 ^ (h - row.length) ≤ sizeMax + 1) :
    (bads (dueOf m) m k h r (row ++ [s]) b p = false → ∃ y5 y6 y7, fgIn rr [.sh (gameD m h k gk), .sh (spotD row as b p), .sh (pD r), .sh (.loc l), .sh (.int s), x5, x6, x7] M = .ok (.nx, [.sh (gameD m h k gk), .sh (spotD row as b p), .sh (pD r), .sh (.loc l), .sh (.int s), y5, y6, y7]) M) ∧
    (bads (dueOf m) m k h r (row ++ [s]) b p = true → ∃ E', fgIn rr [.sh (gameD m h k gk), .sh (spotD row as b p), .sh (pD r), .sh (.loc l), .sh (.int s), x5, x6, x7] M = .ok (.rt .non, E') (M.set l (.dT (kvs ++ ((as, s) :: (List.range (min m (b.length + 1))).flatMap fun i => FEm m k h r (h - row.length) (row ++ [s]) (as ++ [i]) (nxt (row ++ [s]) b p i).1 (nxt (row ++ [s]) b p i).2).map ent)))) := by
  have U0 : 1 ≤ 4 ^ (h - row.length - 1) := Nat.pow_pos (by decide)
  have U1 : 4 ^ (h - row.length) = 4 * 4 ^ (h - row.length - 1) := by rw [Nat.mul_comm, ← Nat.pow_succ, show (h - row.length - 1).succ = h - row.length by omega]
  have sb := a.small hr hk (by omega)
  have ea := e_answers (h := h) (k := k) (kvs := gk) (row := row) (as := as) (p := p) (M := M) hm hm4 (show b.length ≤ 100 by omega)
  have el := e_later (gk := gk) (row := row) (as := as) (b := b) (p := p) (s := s) (h := h) (k := k) hm hm4 (by omega) (by omega) (by omega) (.sh (pD r)) (.sh (.loc l)) x5 x6 x7 M
  have eh := e_holdsAll (r := r) hm hm4 hk hh hr2 led hr hl a hs hsz (.sh (spotD row as b p)) (.sh (.loc l)) (.sh (.int s)) (.sh (.lst (laterD row as b p s (List.range (min m (b.length + 1)))))) x6 x7 M
  have ga := gAny_lst ((List.range (min m (b.length + 1))).map fun i => gD m k h r (row ++ [s]) (nxt (row ++ [s]) b p i).1 (nxt (row ++ [s]) b p i).2)
  have bi := bads_iff (due := dueOf m) (m := m) (k := k) (h := h) (r := r) (row := row ++ [s]) (b := b) (p := p)
  rw [List.any_map] at ga
  have ga : gAny (.lst (((List.range (min m (b.length + 1))).map fun i => gD m k h r (row ++ [s]) (nxt (row ++ [s]) b p i).1 (nxt (row ++ [s]) b p i).2).map D.bl)) = some (.bl ((List.range (min m (b.length + 1))).any fun i => gD m k h r (row ++ [s]) (nxt (row ++ [s]) b p i).1 (nxt (row ++ [s]) b p i).2)) := ga
  generalize ((List.range (min m (b.length + 1))).map fun i => gD m k h r (row ++ [s]) (nxt (row ++ [s]) b p i).1 (nxt (row ++ [s]) b p i).2).map D.bl = HL at eh ga
  generalize hany : ((List.range (min m (b.length + 1))).any fun i => gD m k h r (row ++ [s]) (nxt (row ++ [s]) b p i).1 (nxt (row ++ [s]) b p i).2) = AN at ga
  have bi : bads (dueOf m) m k h r (row ++ [s]) b p = !AN := by rw [bi, ← hany]
  constructor
  · intro z
    rw [z] at bi
    have an : AN = true := by simpa using bi.symm
    subst an
    generalize laterD row as b p s (List.range (min m (b.length + 1))) = LD at el eh
    generalize dN (List.range (min m (b.length + 1))) = AL at ea el
    exact ⟨.sh (.lst LD), x6, x7, by simp [fgIn, v_game, v_spot, ea, el, hl, eh, ga]⟩
  · intro z
    have bad : ∀ i, i < min m (b.length + 1) → gD m k h r (row ++ [s]) (nxt (row ++ [s]) b p i).1 (nxt (row ++ [s]) b p i).2 = false := fun i hi => by
      unfold bads at z
      rw [List.all_eq_true] at z
      have := z i (List.mem_range.mpr hi)
      simpa using this
    rw [z] at bi
    have an : AN = false := by simpa using bi.symm
    subst an
    have pn : J.put kvs (keyN as) (.int s) = kvs ++ [(keyN as, .int s)] := put_new fr.any
    have kp : kPut (.tup (dN as)) (.int s) (.dT kvs) = some (.dT (kvs ++ [(keyN as, .int s)])) := by
      rw [← pn]; exact kPut_dT kvs as (.int s) (by omega)
    obtain ⟨y6, et⟩ := e_fgTurns hm4 IH (hr.app hsz) hl hN a hs bad l (.sh (spotD row as b p)) (.sh (.int s)) (.sh (.lst (laterD row as b p s (List.range (min m (b.length + 1)))))) x7 (List.range (min m (b.length + 1))) (kvs ++ [(keyN as, .int s)]) (M.set l (.dT (kvs ++ [(keyN as, .int s)]))) x6 (get_set hM) (fun i hi => List.mem_range.mp hi) List.nodup_range (fun i hi q hq t => by
      rcases List.mem_append.mp hq with w | w
      · have := fr q w (i :: t)
        rwa [show as ++ [i] ++ t = as ++ (i :: t) by simp]
      · rw [List.mem_singleton.mp w]
        intro e
        have e := keyN_inj e
        have := congrArg List.length e
        simp at this) (by
      rw [List.length_append, List.length_singleton, List.length_range]
      have : min m (b.length + 1) * (2 * 4 ^ (h - row.length - 1) - 1) ≤ 4 * (2 * 4 ^ (h - row.length - 1) - 1) := Nat.mul_le_mul_right _ (by omega)
      omega)
    rw [List.set_set, List.append_assoc] at et
    have et : forL (gN 6) (fgTurn rr) (laterD row as b p s (List.range (min m (b.length + 1)))) [.sh (gameD m h k gk), .sh (spotD row as b p), .sh (pD r), .sh (.loc l), .sh (.int s), .sh (.lst (laterD row as b p s (List.range (min m (b.length + 1))))), x6, x7] (M.set l (.dT (kvs ++ [(keyN as, .int s)]))) = .ok (.nx, [.sh (gameD m h k gk), .sh (spotD row as b p), .sh (pD r), .sh (.loc l), .sh (.int s), .sh (.lst (laterD row as b p s (List.range (min m (b.length + 1))))), y6, x7]) (M.set l (.dT (kvs ++ ((as, s) :: (List.range (min m (b.length + 1))).flatMap fun i => FEm m k h r (h - row.length) (row ++ [s]) (as ++ [i]) (nxt (row ++ [s]) b p i).1 (nxt (row ++ [s]) b p i).2).map ent))) := et
    generalize ((as, s) :: (List.range (min m (b.length + 1))).flatMap fun i => FEm m k h r (h - row.length) (row ++ [s]) (as ++ [i]) (nxt (row ++ [s]) b p i).1 (nxt (row ++ [s]) b p i).2).map ent = ENT at et ⊢
    generalize laterD row as b p s (List.range (min m (b.length + 1))) = LD at el eh et
    generalize dN (List.range (min m (b.length + 1))) = AL at ea el
    refine ⟨[.sh (gameD m h k gk), .sh (spotD row as b p), .sh (pD r), .sh (.loc l), .sh (.int s), .sh (.lst LD), y6, x7], ?_⟩
    generalize hKN : keyN as = KN at *
    generalize hAS : dN as = AS at *
    simp [fgIn, v_game, v_spot, hAS, ea, el, hl, eh, ga, hM, kp, et, -kPut]
theorem e_fgLoop (hm : 1 ≤ m) (hm4 : m ≤ 4) (hk : k ≤ 4) (hh : h ≤ 6) (hr2 : 0 < r.2) (led : Led m h k gk) {rr : Fn} {N : Nat} (IH : FgOk m k h r gk rr N) {row : List Int} {as b : List Nat} {p t : Int} (hr : RowIn k row) (hl : row.length < h) (hN : h - row.length < N + 1) (a : At m row b p) (hs : as.length ≤ row.length) (l : Nat) (kvs : List (List Key × D)) (M : Mem) (hM : M[l]? = some (.dT kvs)) (fr : fresh kvs as)
    (lt : kvs.length + 2 * 4 ^ (h - row.length) ≤ sizeMax + 1) : ∀ (ss : List Int) (x4 x5 x6 x7 : Sl), (∀ s ∈ ss, s ∈ sizes k) → ss.find? (fun s => bads (dueOf m) m k h r (row ++ [s]) b p) = some t →
    ∃ E', forL (gN 4) (fgIn rr) (dI ss) [.sh (gameD m h k gk), .sh (spotD row as b p), .sh (pD r), .sh (.loc l), x4, x5, x6, x7] M = .ok (.rt .non, E') (M.set l (.dT (kvs ++ ((as, t) :: (List.range (min m (b.length + 1))).flatMap fun i => FEm m k h r (h - row.length) (row ++ [t]) (as ++ [i]) (nxt (row ++ [t]) b p i).1 (nxt (row ++ [t]) b p i).2).map ent)))
  | [], x4, x5, x6, x7, _, f => by cases f
  | s :: ss, x4, x5, x6, x7, hss, f => by
    have hsz := hss s List.mem_cons_self
    obtain ⟨e1, e2⟩ := e_fgIn hm hm4 hk hh hr2 led IH hr hl hN a hs hsz l x5 x6 x7 kvs M hM fr lt
    have unf : ∀ X : J.R (Fl × J.Env), fgIn rr [.sh (gameD m h k gk), .sh (spotD row as b p), .sh (pD r), .sh (.loc l), .sh (.int s), x5, x6, x7] M = X → forL (gN 4) (fgIn rr) (dI (s :: ss)) [.sh (gameD m h k gk), .sh (spotD row as b p), .sh (pD r), .sh (.loc l), x4, x5, x6, x7] M = (match X with | .ok (.nx, E) M => forL (gN 4) (fgIn rr) (dI ss) E M | .ok (.ct, E) M => forL (gN 4) (fgIn rr) (dI ss) E M | .ok (.bk, E) M => .ok (.nx, E) M | r => r) := fun X hX => by
      rw [← hX]; rfl
    rw [List.find?_cons] at f
    cases z : bads (dueOf m) m k h r (row ++ [s]) b p with
    | true =>
      rw [z] at f
      cases f
      obtain ⟨E', e⟩ := e2 z
      exact ⟨E', by rw [unf _ e]⟩
    | false =>
      rw [z] at f
      obtain ⟨y5, y6, y7, e⟩ := e1 z
      obtain ⟨E', e3⟩ := e_fgLoop hm hm4 hk hh hr2 led IH hr hl hN a hs l kvs M hM fr lt ss (.sh (.int s)) y5 y6 y7 (fun x hx => hss x (List.mem_cons_of_mem _ hx)) f
      exact ⟨E', by rw [unf _ e]; exact e3⟩
theorem e_fg (hm : 1 ≤ m) (hm4 : m ≤ 4) (hk : k ≤ 4) (hh : h ≤ 6) (hr1 : 0 ≤ r.1) (hr2 : 0 < r.2) (led : Led m h k gk) : ∀ N, FgOk m k h r gk (F_Game_foe_goes N) N
  | 0 => fun row as b p l kvs M _ _ hN => absurd hN (by omega)
  | N + 1 => fun row as b p l kvs M hr hl hN a hs g hM fr lt => by
    have hd := due_dueOf hm
    have ea := e_above (M := M) (as := as) (r := r) hm hk hh led hr hl a
    have U0 : 1 ≤ 4 ^ (h - row.length) := Nat.pow_pos (by decide)
    rw [fg_shape]
    cases z : above (dueOf m) r row p with
    | true =>
      rw [z] at ea
      unfold FEm
      rw [FE_above z]
      have pn : J.put kvs (keyN as) (.int 0) = kvs ++ [(keyN as, .int 0)] := put_new fr.any
      have kp : kPut (.tup (dN as)) (.int 0) (.dT kvs) = some (.dT (kvs ++ [(keyN as, .int 0)])) := by
        rw [← pn]; exact kPut_dT kvs as (.int 0) (by omega)
      have e0 : ([(as, 0)] : List (List Nat × Int)).map ent = [(keyN as, .int 0)] := rfl
      rw [e0]
      generalize hKN : keyN as = KN at *
      generalize hAS : dN as = AS at *
      simp [v_game, v_spot, hAS, ea, hM, kp, -kPut]
    | false =>
      rw [z] at ea
      obtain ⟨hl2, s, hsz, f, bad⟩ := fs_ok hd hm hr1 hr2 hr g z
      obtain ⟨E', e⟩ := e_fgLoop (t := s) hm hm4 hk hh hr2 led (e_fg hm hm4 hk hh hr1 hr2 led N) hr hl2 hN a hs l kvs M hM fr lt (sizes k) .un .un .un .un (fun _ q => q) f
      unfold FEm at e ⊢
      rw [FE_some z f]
      simp [v_game, v_spot, ea, e]
end
end K82
namespace K82
open PySem J PM PG
section
variable {m h k : Nat} {gk : List (List Key × D)} {r : Q}
theorem fresh_nil (as : List Nat) : fresh [] as := fun q hq => nomatch hq
theorem e_fbook (hr : Rt r) (hm : 1 ≤ m) (hm4 : m ≤ 4) (h1 : 1 ≤ h) (hh : h ≤ 6) (k1 : 1 ≤ k) (hk : k ≤ 4) (hp : k ^ h ≤ 400) (M : Mem) :
    (gD m k h r [] [] 0 = true → F_foes_book [.int m, .int h, .int k, pD r] M = .ok .non M) ∧
    (gD m k h r [] [] 0 = false → F_foes_book [.int m, .int h, .int k, pD r] M = .ok (.loc M.length) (M ++ [.dT ((FEm m k h r (h + 1) [] [] [] 0).map ent)])) := by
  have c := e_check_ratio m h k hr hm hm4 h1 hh k1 hk hp M
  obtain ⟨gk, led, mk⟩ := e_mkGame m h k hm k1 hk hh hp M
  have mk2 := mk (aCons (cV 0) (aCons (cV 1) (aCons (cV 2) aNil))) [.sh (.int m), .sh (.int h), .sh (.int k), .sh (pD r), .un, .un] (by simp)
  have eb := e_begin M
  have a0 : At m [] [] 0 := ⟨[], .nil⟩
  have r0 : RowIn k [] := fun s hs => (nomatch hs)
  have eh := e_holds (M := M) (as := []) hm hm4 hk hh hr.d led r0 (by simp) a0 (by simp)
  have hM : (M ++ [Cell.dT []])[M.length]? = some (.dT []) := by simp
  have st : ∀ X, (M ++ [Cell.dT []]).set M.length X = M ++ [X] := by simp
  have eb2 := e_begin (M ++ [.dT []])
  unfold F_foes_book
  generalize hmk : cMkN 3 4 F_Game___init__ (aCons (cV 0) (aCons (cV 1) (aCons (cV 2) aNil))) = mkC at mk2 ⊢
  constructor
  · intro g
    rw [g] at eh
    simp [c, mk2, eb, v_game, eh]
  · intro g
    rw [g] at eh
    have b6 : 4 ^ h ≤ 4 ^ 6 := Nat.pow_le_pow_right (by decide) hh
    have e := e_fg (gk := gk) hm hm4 hk hh hr.n hr.d led 8 [] [] [] 0 M.length [] (M ++ [.dT []]) r0 (by simp) (by simp; omega) a0 (by simp) g hM (fresh_nil _) (by simp only [List.length_nil, Nat.sub_zero, Nat.zero_add]; unfold sizeMax; omega)
    rw [st, List.nil_append] at e
    have e : F_Game_foe_goes 8 [gameD m h k gk, spotD [] [] [] 0, pD r, .loc M.length] (M ++ [.dT []]) = .ok .non (M ++ [.dT ((FEm m k h r (h + 1) [] [] [] 0).map ent)]) := e
    generalize F_Game_foe_goes 8 = FG at e ⊢
    generalize (FEm m k h r (h + 1) [] [] [] 0).map ent = B at e ⊢
    simp [c, mk2, eb, eb2, v_game, eh, e, J.cellOf]
structure Pos where
  row : List Int
  as : List Nat
  b : List Nat
  p : Int
def Pos.d (q : Pos) : D := spotD q.row q.as q.b q.p
noncomputable def Pos.fe (m k h : Nat) (r : Q) (q : Pos) : List (List Nat × Int) := FEm m k h r (h - q.row.length + 1) q.row q.as q.b q.p
structure PosOk (m k h : Nat) (r : Q) (B : List (List Key × D)) (q : Pos) : Prop where
  row : RowIn k q.row
  len : q.row.length ≤ h
  at_ : At m q.row q.b q.p
  as : q.as.length ≤ q.row.length
  bad : gD m k h r q.row q.b q.p = false
  look : ∀ e ∈ q.fe m k h r, J.look B (keyN e.1) = some (.int e.2)
def Pos.kids (m : Nat) (q : Pos) (s : Int) : List Pos := (List.range (min m (q.b.length + 1))).map fun i => ⟨q.row ++ [s], q.as ++ [i], (nxt (q.row ++ [s]) q.b q.p i).1, (nxt (q.row ++ [s]) q.b q.p i).2⟩
/-- what the foe says at a stand -/
theorem pos_case (hm : 1 ≤ m) (hr1 : 0 ≤ r.1) (hr2 : 0 < r.2) {B : List (List Key × D)} {q : Pos} (ok : PosOk m k h r B q) :
    (above (dueOf m) r q.row q.p = true ∧ look B (keyN q.as) = some (.int 0) ∧ (q.fe m k h r).length = 1) ∨
    (above (dueOf m) r q.row q.p = false ∧ q.row.length < h ∧ ∃ s ∈ sizes k, look B (keyN q.as) = some (.int s) ∧ (∀ c ∈ q.kids m s, PosOk m k h r B c) ∧ (q.fe m k h r).length = 1 + ((q.kids m s).map fun c => (c.fe m k h r).length).sum) := by
  have lk := ok.look
  cases z : above (dueOf m) r q.row q.p with
  | true =>
    have fe : q.fe m k h r = [(q.as, 0)] := FE_above z
    refine .inl ⟨rfl, lk (q.as, 0) (by rw [fe]; simp), by rw [fe]; rfl⟩
  | false =>
    obtain ⟨hl, s, hs, f, bad⟩ := fs_ok (due_dueOf hm) hm hr1 hr2 ok.row ok.bad z
    have fe : q.fe m k h r = (q.as, s) :: (List.range (min m (q.b.length + 1))).flatMap fun i => FEm m k h r (h - q.row.length) (q.row ++ [s]) (q.as ++ [i]) (nxt (q.row ++ [s]) q.b q.p i).1 (nxt (q.row ++ [s]) q.b q.p i).2 := FE_some z f
    have hl' : h - (q.row ++ [s]).length + 1 = h - q.row.length := by rw [List.length_append, List.length_singleton]; omega
    refine .inr ⟨rfl, hl, s, hs, lk (q.as, s) (by rw [fe]; simp), fun c hc => ?_, ?_⟩
    · obtain ⟨i, hi, rfl⟩ := List.mem_map.mp hc
      have him := List.mem_range.mp hi
      refine ⟨ok.row.app hs, by show (q.row ++ [s]).length ≤ h; rw [List.length_append, List.length_singleton]; omega, nxt_at (s := s) ok.at_ him, by have := ok.as; show (q.as ++ [i]).length ≤ (q.row ++ [s]).length; rw [List.length_append, List.length_append, List.length_singleton, List.length_singleton]; omega, bad i him, fun e he => lk e ?_⟩
      have he : e ∈ FEm m k h r (h - (q.row ++ [s]).length + 1) (q.row ++ [s]) (q.as ++ [i]) (nxt (q.row ++ [s]) q.b q.p i).1 (nxt (q.row ++ [s]) q.b q.p i).2 := he
      rw [hl'] at he
      rw [fe]
      exact List.mem_cons_of_mem _ (List.mem_flatMap.mpr ⟨i, hi, he⟩)
    · rw [fe, List.length_cons, List.length_flatMap]
      unfold Pos.kids Pos.fe
      rw [List.map_map]
      have : ∀ i : Nat, ((fun c : Pos => (FEm m k h r (h - c.row.length + 1) c.row c.as c.b c.p).length) ∘ fun i => (⟨q.row ++ [s], q.as ++ [i], (nxt (q.row ++ [s]) q.b q.p i).1, (nxt (q.row ++ [s]) q.b q.p i).2⟩ : Pos)) i = (FEm m k h r (h - q.row.length) (q.row ++ [s]) (q.as ++ [i]) (nxt (q.row ++ [s]) q.b q.p i).1 (nxt (q.row ++ [s]) q.b q.p i).2).length := fun i => by
        show (FEm m k h r (h - (q.row ++ [s]).length + 1) _ _ _ _).length = _
        rw [hl']
      rw [List.map_congr_left fun i _ => this i]
      omega
theorem sizes_last (k1 : 1 ≤ k) : gIx (.lst (dI (sizes k))) (.int (-1)) = some (.int k) := by
  obtain ⟨k', rfl⟩ : ∃ k', k = k' + 1 := ⟨k - 1, by omega⟩
  have e : dI (sizes (k' + 1)) = dI (sizes k') ++ [D.int ((k' + 1 : Nat) : Int)] := by
    unfold sizes
    rw [List.range_succ, List.map_append]
    simp
    omega
  rw [e]
  show (ixN (dI (sizes k') ++ [D.int ((k' + 1 : Nat) : Int)]).length (-1)).bind (fun j => (dI (sizes k') ++ [D.int ((k' + 1 : Nat) : Int)])[j]?) = _
  have : ixN (dI (sizes k') ++ [D.int ((k' + 1 : Nat) : Int)]).length (-1) = some (dI (sizes k')).length := by
    unfold ixN
    rw [if_neg (by decide), if_pos (by rw [List.length_append]; simp; omega)]
    congr 1
    rw [List.length_append]; simp; omega
  rw [this]
  simp
theorem e_word0 (hm : 1 ≤ m) (k1 : 1 ≤ k) (hk : k ≤ 4) (hh : h ≤ 6) (led : Led m h k gk) {q : Pos} {B : List (List Key × D)} (ok : PosOk m k h r B q) (ab : above (dueOf m) r q.row q.p = true) (M : Mem) : F_is_foes_word [gameD m h k gk, q.d, pD r, .int 0] M = .ok (.bl true) M := by
  have ea := e_above (M := M) (as := q.as) (r := r) hm hk hh led ok.row ok.len ok.at_
  rw [ab] at ea
  have sl := sizes_last k1
  have ea : F_Game_is_above [gameD m h k gk, q.d, pD r] M = .ok (.bl true) M := ea
  have hk0 : (0 : Int) ≤ k := by omega
  simp [F_is_foes_word, v_game, sl, e_is_within, ea, -gIx]
theorem e_word1 (hk1 : 1 ≤ k) {q : Pos} (hl : q.row.length < h) {s : Int} (hs : s ∈ sizes k) (M : Mem) : F_is_foes_word [gameD m h k gk, q.d, pD r, .int s] M = .ok (.bl true) M := by
  have sl := sizes_last hk1
  obtain ⟨s1, s2⟩ := mem_sizes.mp hs
  have v0 : ∀ M, view M q.d = .obj 2 [.tup (dI q.row), .tup (dN q.as), .tup (dN q.b), .int q.p] := fun _ => rfl
  have n0 : ¬ s = 0 := by omega
  have s0 : 0 ≤ s := by omega
  simp [F_is_foes_word, v_game, v0, sl, e_is_within, s0, s2, n0, hl, -gIx]
def fbIn : CS := (sSeq (sPop (gN 8) (rOwn 7)) (sSeq (sAsg (gN 9) (cGet (cV 4) (c1 (gFld 2 1) (cV 8)))) (sSeq (sIf (tNot (tV (cCall0 (ifN 4 F_is_foes_word) (aCons (cV 5) (aCons (cV 8) (aCons (cV 3) (aCons (cV 9) aNil))))))) (sRet (cC (.bl false))) sNil) (sSeq (sAug 6 jAdd (cC (.int 1))) (sIf (tV (c2 gGt (cV 9) (cC (.int 0)))) (sExt (rOwn 7) (cComp [10] (iSeq (cMethN 3 2 F_Game_answers_at (cV 5) (aCons (cV 8) aNil))) (gN 10) tYes (cMethN 2 3 F_Spot_behind (cV 8) (aCons (cV 9) (aCons (cV 10) aNil))))) sNil)))))
theorem fb_shape : F_is_foes_book = body 11 5 (sSeq (sExpr (cCall0 (ifN 4 F_check_ratio_game) (aCons (cV 0) (aCons (cV 1) (aCons (cV 2) (aCons (cV 3) aNil)))))) (sSeq (sIf (tNot (tV (cIsDT (cV 4)))) (sRet (cC (.bl false))) sNil) (sSeq (sAsg (gN 5) (cMkN 3 4 F_Game___init__ (aCons (cV 0) (aCons (cV 1) (aCons (cV 2) aNil))))) (sSeq (sAsg (gN 6) (cC (.int 0))) (sSeq (sOwn 7 (cLst (aCons (cCall0 (ifN 0 F_begin) aNil) aNil))) (sSeq (whileN (tV (c2 gGt (c1 gLen (oV 7)) (cC (.int 0)))) fbIn 20000) (sRet (c2 gEq (cV 6) (cLenT (cV 4)))))))))) := rfl
theorem get_T (B : List (List Key × D)) (as : List Nat) : gGet (.dT B) (.tup (dN as)) = some ((look B (keyN as)).getD .non) := by
  show (keysOf (dN as)).map (fun ks => (look B ks).getD D.non) = _
  rw [keysOf_dN]; rfl
def stackD (st : List Pos) : List D := st.reverse.map Pos.d
theorem stack_cons (q : Pos) (st : List Pos) : stackD (q :: st) = stackD st ++ [q.d] := by unfold stackD; rw [List.reverse_cons, List.map_append]; rfl
theorem stack_kids (cs st : List Pos) : stackD (cs.reverse ++ st) = stackD st ++ cs.map Pos.d := by unfold stackD; rw [List.reverse_append, List.reverse_reverse, List.map_append]
theorem e_fbIn (hm : 1 ≤ m) (hm4 : m ≤ 4) (k1 : 1 ≤ k) (hk : k ≤ 4) (hh : h ≤ 6) (hr1 : 0 ≤ r.1) (hr2 : 0 < r.2) (led : Led m h k gk) {B : List (List Key × D)} {l : Nat} {M : Mem} (hM : M[l]? = some (.dT B)) {q : Pos} (ok : PosOk m k h r B q) (st : List Pos) (hst : st.length ≤ 100000) (c : Int) (x8 x9 x10 : Sl) :
    ∃ (cs : List Pos) (y8 y9 y10 : Sl), (∀ p ∈ cs, PosOk m k h r B p) ∧ (q.fe m k h r).length = 1 + (cs.map fun p => (p.fe m k h r).length).sum ∧ cs.length ≤ 4 ∧
      fbIn [.sh (.int m), .sh (.int h), .sh (.int k), .sh (pD r), .sh (.loc l), .sh (gameD m h k gk), .sh (.int c), .ow (.lst (stackD (q :: st))), x8, x9, x10] M = .ok (.nx, [.sh (.int m), .sh (.int h), .sh (.int k), .sh (pD r), .sh (.loc l), .sh (gameD m h k gk), .sh (.int (c + 1)), .ow (.lst (stackD (cs.reverse ++ st))), y8, y9, y10]) M := by
  have sb := ok.at_.small ok.row hk (by have := ok.len; omega)
  have vM : view M (.loc l) = .dT B := view_loc _ _ _ hM
  have v0 : ∀ M, view M q.d = .obj 2 [.tup (dI q.row), .tup (dN q.as), .tup (dN q.b), .int q.p] := fun _ => rfl
  have gt := get_T B q.as
  have pop : (stackD st ++ [q.d])[(stackD st ++ [q.d]).length - 1]? = some q.d := by simp
  have dl : (stackD st ++ [q.d]).dropLast = stackD st := List.dropLast_concat
  have isd : isDic (.dT B) = true := rfl
  rw [stack_cons]
  rcases pos_case hm hr1 hr2 ok with ⟨ab, lk, len⟩ | ⟨nab, hl, s, hs, lk, kids, len⟩
  · rw [lk] at gt
    have ew := e_word0 (M := M) hm k1 hk hh led ok ab
    have gt : gGet (.dT B) (.tup (dN q.as)) = some (.int 0) := gt
    refine ⟨[], .sh q.d, .sh (.int 0), x10, fun p hp => (nomatch hp), by rw [len]; rfl, by simp, ?_⟩
    generalize hAS : dN q.as = AS at *
    generalize hST : stackD st = ST at *
    simp [fbIn, -List.length_append, pop, dl, vM, v0, isd, gt, ew, hAS, hST]
  · rw [lk] at gt
    have ew := e_word1 (m := m) (gk := gk) (r := r) k1 hl hs M
    have gt : gGet (.dT B) (.tup (dN q.as)) = some (.int s) := gt
    have sp := (mem_sizes.mp hs).1
    have sp : 0 < s := by omega
    have ea : F_Game_answers_at [gameD m h k gk, q.d] M = _ := e_answers (h := h) (k := k) (kvs := gk) (row := q.row) (as := q.as) (p := q.p) (M := M) hm hm4 (show q.b.length ≤ 100 by omega)
    have el := compL_map (vs := [10]) (g := gN 10) (f := cMethN 2 3 F_Spot_behind (cV 8) (aCons (cV 9) (aCons (cV 10) aNil))) (E := [.sh (.int m), .sh (.int h), .sh (.int k), .sh (pD r), .sh (.loc l), .sh (gameD m h k gk), .sh (.int (c + 1)), .ow (.lst (stackD st)), .sh q.d, .sh (.int s), x10]) (M := M)
      (fun i : Nat => D.int (i : Int)) (fun i => (⟨q.row ++ [s], q.as ++ [i], (nxt (q.row ++ [s]) q.b q.p i).1, (nxt (q.row ++ [s]) q.b q.p i).2⟩ : Pos).d) (List.range (min m (q.b.length + 1))) fun i hi => by
      have him := List.mem_range.mp hi
      have eb := e_behind_spot q.row q.as q.b q.p s i (by omega) (by omega) (by have := ok.len; omega) (by have := ok.as; have := ok.len; omega) M
      have eb : F_Spot_behind [q.d, .int s, .int i] M = .ok (⟨q.row ++ [s], q.as ++ [i], (nxt (q.row ++ [s]) q.b q.p i).1, (nxt (q.row ++ [s]) q.b q.p i).2⟩ : Pos).d M := eb
      exact ⟨_, rfl, by simp [wipe, v0, eb]⟩
    have ek : (List.range (min m (q.b.length + 1))).map (fun i => (⟨q.row ++ [s], q.as ++ [i], (nxt (q.row ++ [s]) q.b q.p i).1, (nxt (q.row ++ [s]) q.b q.p i).2⟩ : Pos).d) = (q.kids m s).map Pos.d := by unfold Pos.kids; rw [List.map_map]; rfl
    rw [ek] at el
    have lk4 : (q.kids m s).length ≤ 4 := by unfold Pos.kids; rw [List.length_map, List.length_range]; omega
    have lx : (stackD st).length + ((q.kids m s).map Pos.d).length ≤ sizeMax := by
      rw [List.length_map]; unfold stackD; rw [List.length_map, List.length_reverse]; unfold sizeMax; omega
    refine ⟨q.kids m s, .sh q.d, .sh (.int s), x10, kids, len, lk4, ?_⟩
    rw [stack_kids]
    generalize hKD : (q.kids m s).map Pos.d = KD at *
    generalize hAL : (List.range (min m (q.b.length + 1))).map (fun i : Nat => D.int (i : Int)) = AL at *
    generalize hAS : dN q.as = AS at *
    generalize hST : stackD st = ST at *
    simp [fbIn, -List.length_append, pop, dl, vM, v0, v_game, isd, gt, ew, hAS, hST, sp, ea, hAL, el, lx]
end
end K82
namespace K82
open PySem J PM PG
section
variable {m h k : Nat} {gk : List (List Key × D)} {r : Q}
noncomputable def tot (m k h : Nat) (r : Q) (st : List Pos) : Nat := (st.map fun q => (q.fe m k h r).length).sum
theorem tot_cons (q : Pos) (st : List Pos) : tot m k h r (q :: st) = (q.fe m k h r).length + tot m k h r st := by unfold tot; rw [List.map_cons, List.sum_cons]
theorem tot_kids (cs st : List Pos) : tot m k h r (cs.reverse ++ st) = (cs.map fun p => (p.fe m k h r).length).sum + tot m k h r st := by
  unfold tot
  rw [List.map_append, List.sum_append, List.map_reverse, List.sum_reverse]
theorem fe_one (hm : 1 ≤ m) (hr1 : 0 ≤ r.1) (hr2 : 0 < r.2) {B : List (List Key × D)} {q : Pos} (ok : PosOk m k h r B q) : 1 ≤ (q.fe m k h r).length := by
  rcases pos_case hm hr1 hr2 ok with ⟨_, _, e⟩ | ⟨_, _, s, _, _, _, e⟩ <;> omega
theorem len_tot (hm : 1 ≤ m) (hr1 : 0 ≤ r.1) (hr2 : 0 < r.2) {B : List (List Key × D)} : ∀ st : List Pos, (∀ q ∈ st, PosOk m k h r B q) → st.length ≤ tot m k h r st
  | [], _ => Nat.zero_le _
  | q :: st, ok => by
    have h1 := fe_one hm hr1 hr2 (ok q List.mem_cons_self)
    have h2 := len_tot hm hr1 hr2 st fun x hx => ok x (List.mem_cons_of_mem _ hx)
    rw [tot_cons, List.length_cons]; omega
theorem e_fbLoop (hm : 1 ≤ m) (hm4 : m ≤ 4) (k1 : 1 ≤ k) (hk : k ≤ 4) (hh : h ≤ 6) (hr1 : 0 ≤ r.1) (hr2 : 0 < r.2) (led : Led m h k gk) {B : List (List Key × D)} {l : Nat} {M : Mem} (hM : M[l]? = some (.dT B)) :
    ∀ (T : Nat) (st : List Pos) (c : Int) (x8 x9 x10 : Sl) (n : Nat), (∀ q ∈ st, PosOk m k h r B q) → tot m k h r st = T → T < n → T ≤ 50000 →
    ∃ y8 y9 y10, whileN (tV (c2 gGt (c1 gLen (oV 7)) (cC (.int 0)))) fbIn n [.sh (.int m), .sh (.int h), .sh (.int k), .sh (pD r), .sh (.loc l), .sh (gameD m h k gk), .sh (.int c), .ow (.lst (stackD st)), x8, x9, x10] M = .ok (.nx, [.sh (.int m), .sh (.int h), .sh (.int k), .sh (pD r), .sh (.loc l), .sh (gameD m h k gk), .sh (.int (c + T)), .ow (.lst []), y8, y9, y10]) M
  | T, [], c, x8, x9, x10, n, ok, ht, hn, _ => by
    obtain ⟨n', rfl⟩ : ∃ n', n = n' + 1 := ⟨n - 1, by omega⟩
    have : T = 0 := by rw [← ht]; rfl
    subst this
    refine ⟨x8, x9, x10, ?_⟩
    have e0 : stackD [] = [] := rfl
    rw [e0, whileN]
    simp
  | 0, q :: st, c, x8, x9, x10, n, ok, ht, hn, _ => by
    have h1 := fe_one hm hr1 hr2 (ok q List.mem_cons_self)
    rw [tot_cons] at ht; omega
  | T + 1, q :: st, c, x8, x9, x10, n, ok, ht, hn, hT => by
    obtain ⟨n', rfl⟩ : ∃ n', n = n' + 1 := ⟨n - 1, by omega⟩
    have lt := len_tot hm hr1 hr2 st fun x hx => ok x (List.mem_cons_of_mem _ hx)
    rw [tot_cons] at ht
    obtain ⟨cs, y8, y9, y10, okc, len, _, e⟩ := e_fbIn hm hm4 k1 hk hh hr1 hr2 led hM (ok q List.mem_cons_self) st (by omega) c x8 x9 x10
    have tk : tot m k h r (cs.reverse ++ st) = T := by rw [tot_kids]; omega
    obtain ⟨z8, z9, z10, e2⟩ := e_fbLoop hm hm4 k1 hk hh hr1 hr2 led hM T (cs.reverse ++ st) (c + 1) y8 y9 y10 n' (fun x hx => by
      rcases List.mem_append.mp hx with z | z
      · exact okc x (List.mem_reverse.mp z)
      · exact ok x (List.mem_cons_of_mem _ z)) tk (by omega) (by omega)
    refine ⟨z8, z9, z10, ?_⟩
    rw [show c + ((T + 1 : Nat) : Int) = c + 1 + T by omega, ← e2, whileN]
    have ls : (stackD (q :: st)).length = st.length + 1 := by unfold stackD; rw [List.length_map, List.length_reverse, List.length_cons]
    generalize hS : stackD (q :: st) = S at e ls ⊢
    have pos : (0 : Int) < S.length := by omega
    generalize fbIn = FI at e ⊢
    simp [ls, e]
theorem root_ok (g0 : gD m k h r [] [] 0 = false) : PosOk m k h r ((FEm m k h r (h + 1) [] [] [] 0).map ent) ⟨[], [], [], 0⟩ :=
  ⟨fun s hs => (nomatch hs), Nat.zero_le _, ⟨[], .nil⟩, Nat.zero_le _, g0, fun e he => by
    have he : e ∈ FEm m k h r (h + 1) [] [] [] 0 := he
    refine look_of_mem ?_ (List.mem_map.mpr ⟨e, he, rfl⟩)
    have nd := FE_nodup (due := dueOf m) (m := m) (k := k) (h := h) (r := r) (h + 1) [] [] [] 0
    rw [List.map_map, List.nodup_iff_pairwise_ne, List.pairwise_map]
    rw [List.nodup_iff_pairwise_ne, List.pairwise_map] at nd
    exact nd.imp fun ne q => ne (keyN_inj q)⟩
theorem root_tot (hm4 : m ≤ 4) (hh : h ≤ 6) : (FEm m k h r (h + 1) [] [] [] 0).length < 20000 := by
  have := FE_len (due := dueOf m) (k := k) (h := h) (r := r) hm4 (h + 1) [] [] [] 0
  have p : 4 ^ (h + 1) ≤ 4 ^ 7 := Nat.pow_le_pow_right (by decide) (by omega)
  unfold FEm
  omega
theorem e_isf_true (hr : Rt r) (hm : 1 ≤ m) (hm4 : m ≤ 4) (h1 : 1 ≤ h) (hh : h ≤ 6) (k1 : 1 ≤ k) (hk : k ≤ 4) (hp : k ^ h ≤ 400) {l : Nat} {M : Mem} (hM : M[l]? = some (.dT ((FEm m k h r (h + 1) [] [] [] 0).map ent))) (g0 : gD m k h r [] [] 0 = false) :
    F_is_foes_book [.int m, .int h, .int k, pD r, .loc l] M = .ok (.bl true) M := by
  have c := e_check_ratio m h k hr hm hm4 h1 hh k1 hk hp M
  obtain ⟨gk, led, mk⟩ := e_mkGame m h k hm k1 hk hh hp M
  have mk2 := mk (aCons (cV 0) (aCons (cV 1) (aCons (cV 2) aNil))) [.sh (.int m), .sh (.int h), .sh (.int k), .sh (pD r), .sh (.loc l), .un, .un, .un, .un, .un, .un] (by simp)
  have eb := e_begin M
  have rt := root_tot (k := k) (r := r) hm4 hh
  have tt : tot m k h r [⟨[], [], [], 0⟩] = (FEm m k h r (h + 1) [] [] [] 0).length := by
    unfold tot Pos.fe
    simp
  obtain ⟨y8, y9, y10, el⟩ := e_fbLoop hm hm4 k1 hk hh hr.n hr.d led hM _ [⟨[], [], [], 0⟩] 0 .un .un .un 20000 (fun q hq => by rw [List.mem_singleton.mp hq]; exact root_ok g0) tt rt (by omega)
  have s0 : stackD [⟨[], [], [], 0⟩] = [spotD [] [] [] 0] := rfl
  rw [s0] at el
  have lB : ((FEm m k h r (h + 1) [] [] [] 0).map ent).length = (FEm m k h r (h + 1) [] [] [] 0).length := List.length_map ..
  rw [fb_shape]
  generalize hmk : cMkN 3 4 F_Game___init__ (aCons (cV 0) (aCons (cV 1) (aCons (cV 2) aNil))) = mkC at mk2 ⊢
  generalize hB : (FEm m k h r (h + 1) [] [] [] 0).map ent = B at *
  generalize (FEm m k h r (h + 1) [] [] [] 0).length = n at *
  generalize whileN (tV (c2 gGt (c1 gLen (oV 7)) (cC (.int 0)))) fbIn 20000 = W at el ⊢
  have l1 : 1 ≤ sizeMax := by decide
  simp [c, hM, mk2, eb, J.cellOf, el, lB, l1]
theorem e_wordN (k1 : 1 ≤ k) (d : D) (M : Mem) : F_is_foes_word [gameD m h k gk, d, pD r, .non] M = .ok (.bl false) M := by
  have sl := sizes_last k1
  have n1 : gIsI "int" .non = some (.bl false) := rfl
  simp [F_is_foes_word, v_game, sl, F_is_within, F_is_integer, n1, -gIx]
theorem e_isf_false (hr : Rt r) (hm : 1 ≤ m) (hm4 : m ≤ 4) (h1 : 1 ≤ h) (hh : h ≤ 6) (k1 : 1 ≤ k) (hk : k ≤ 4) (hp : k ^ h ≤ 400) {l : Nat} {M : Mem} {B : List (List Key × D)} (hM : M[l]? = some (.dT B)) (x : KB m k h r B) :
    F_is_foes_book [.int m, .int h, .int k, pD r, .loc l] M = .ok (.bl false) M := by
  have c := e_check_ratio m h k hr hm hm4 h1 hh k1 hk hp M
  obtain ⟨gk, led, mk⟩ := e_mkGame m h k hm k1 hk hh hp M
  have mk2 := mk (aCons (cV 0) (aCons (cV 1) (aCons (cV 2) aNil))) [.sh (.int m), .sh (.int h), .sh (.int k), .sh (pD r), .sh (.loc l), .un, .un, .un, .un, .un, .un] (by simp)
  have eb := e_begin M
  have vM : view M (.loc l) = .dT B := view_loc _ _ _ hM
  have lk : look B [] = none := by
    cases q : look B [] with
    | none => rfl
    | some d =>
      obtain ⟨row, hrow, e⟩ := List.mem_map.mp (x.sub _ (look_mem q))
      have : row = [] := by
        cases row with
        | nil => rfl
        | cons a t => cases e
      exact absurd this ((mem_rowsTo h row).mp hrow).1
  have gt : gGet (.dT B) (.tup []) = some .non := by
    have := get_T B []
    have e0 : keyN [] = [] := rfl
    rw [e0, lk] at this
    exact this
  have ew := e_wordN (m := m) (h := h) (gk := gk) (r := r) k1 (spotD [] [] [] 0) M
  have v0 : ∀ M, view M (spotD [] [] [] 0) = .obj 2 [.tup [], .tup [], .tup [], .int 0] := fun _ => rfl
  have isd : isDic (.dT B) = true := rfl
  have turn : fbIn [.sh (.int m), .sh (.int h), .sh (.int k), .sh (pD r), .sh (.loc l), .sh (gameD m h k gk), .sh (.int 0), .ow (.lst [spotD [] [] [] 0]), .un, .un, .un] M = .ok (.rt (.bl false), [.sh (.int m), .sh (.int h), .sh (.int k), .sh (pD r), .sh (.loc l), .sh (gameD m h k gk), .sh (.int 0), .ow (.lst []), .sh (spotD [] [] [] 0), .sh .non, .un]) M := by
    simp [fbIn, vM, v0, isd, gt, ew]
  have wl : whileN (tV (c2 gGt (c1 gLen (oV 7)) (cC (.int 0)))) fbIn 20000 [.sh (.int m), .sh (.int h), .sh (.int k), .sh (pD r), .sh (.loc l), .sh (gameD m h k gk), .sh (.int 0), .ow (.lst [spotD [] [] [] 0]), .un, .un, .un] M = .ok (.rt (.bl false), [.sh (.int m), .sh (.int h), .sh (.int k), .sh (pD r), .sh (.loc l), .sh (gameD m h k gk), .sh (.int 0), .ow (.lst []), .sh (spotD [] [] [] 0), .sh .non, .un]) M := by
    rw [show (20000 : Nat) = 19999 + 1 from rfl, whileN]
    generalize fbIn = FI at turn ⊢
    simp [turn]
  rw [fb_shape]
  generalize hmk : cMkN 3 4 F_Game___init__ (aCons (cV 0) (aCons (cV 1) (aCons (cV 2) aNil))) = mkC at mk2 ⊢
  generalize whileN (tV (c2 gGt (c1 gLen (oV 7)) (cC (.int 0)))) fbIn 20000 = W at wl ⊢
  have l1 : 1 ≤ sizeMax := by decide
  simp [c, hM, mk2, eb, J.cellOf, wl, l1]
end
end K82
namespace K82
open PySem J PM PG
section
variable {m h k : Nat} {r : Q} {c0 : Cell × Mem}
def Pos.t (q : Pos) : D := .tup [.tup (dN q.as), .tup (dI q.row), .tup (dN q.b), .int q.p]
def lfPush : CS := (sSeq (sAsg (gN 11) (cIf (tV (c2 gLt (cV 10) (c1 gLen (cV 8)))) (c2 gIx (cV 8) (cV 10)) (c1 gLen (cV 7)))) (sSeq (sAsg (gN 12) (c2 gAdd (c2 gAdd (cV 9) (c1 gSum (cSl (cV 7) (oSome (cV 11)) oNone))) (cV 5))) (sApp (rOwn 3) (cTup (aCons (c2 gAdd (cV 6) (cTup (aCons (cV 10) aNil))) (aCons (c2 gAdd (cV 7) (cTup (aCons (cV 5) aNil))) (aCons (c2 gAdd (cSl (cV 8) oNone (oSome (cV 10))) (cTup (aCons (cV 11) aNil))) (aCons (cV 12) aNil))))))))
def lfIn : CS := (sSeq (sPop (gT [(gN 6), (gN 7), (gN 8), (gN 9)]) (rOwn 3)) (sSeq (sAsg (gN 4) (c2 gAdd (cV 4) (cC (.int 1)))) (sSeq (sIf (tOr (tV (c2 gNotIn (cV 6) (cV 2))) (tNot (tV (cCall0 (ifN 3 F__law_whole) (aCons (c2 gIx (cV 2) (cV 6)) (aCons (cC (.int 0)) (aCons (c2 gIx (cV 0) (cC (.int 2))) aNil))))))) (sRet (cC (.bl false))) sNil) (sSeq (sAsg (gN 5) (c2 gIx (cV 2) (cV 6))) (sIf (tV (c2 gEq (cV 5) (cC (.int 0)))) (sIf (tOr (tV (c2 gEq (cV 7) (cTup aNil))) (tV (c2 gLe (c2 gMul (cV 9) (c2 gIx (cV 1) (cC (.int 1)))) (c2 gMul (c2 gIx (cV 1) (cC (.int 0))) (cCall0 (ifN 2 F__law_due) (aCons (cV 0) (aCons (cV 7) aNil))))))) (sRet (cC (.bl false))) sNil) (sIf (tV (c2 gEq (c1 gLen (cV 7)) (c2 gIx (cV 0) (cC (.int 1))))) (sRet (cC (.bl false))) (sFor (iRng (c2 gAdd (c2 gMin2 (c1 gLen (cV 8)) (c2 gSub (c2 gIx (cV 0) (cC (.int 0))) (cC (.int 1)))) (cC (.int 1)))) (gN 10) lfPush)))))))
theorem lf_shape : F__law_is_foes = body 13 3 (sSeq (sIf (tNot (tV (cIsDT (cV 2)))) (sRet (cC (.bl false))) sNil) (sSeq (sOwn 3 (cLst (aCons (cTup (aCons (cTup aNil) (aCons (cTup aNil) (aCons (cTup aNil) (aCons (cC (.int 0)) aNil))))) aNil))) (sSeq (sAsg (gN 4) (cC (.int 0))) (sSeq (whileN (tV (c2 gGt (c1 gLen (oV 3)) (cC (.int 0)))) lfIn 20000) (sRet (c2 gEq (cV 4) (cLenT (cV 2)))))))) := rfl
def stackT (st : List Pos) : List D := st.reverse.map Pos.t
theorem stackT_cons (q : Pos) (st : List Pos) : stackT (q :: st) = stackT st ++ [q.t] := by unfold stackT; rw [List.reverse_cons, List.map_append]; rfl
theorem stackT_kids (cs st : List Pos) : stackT (cs.reverse ++ st) = stackT st ++ cs.map Pos.t := by unfold stackT; rw [List.reverse_append, List.reverse_reverse, List.map_append]
theorem begin_le {q : Pos} (a : At m q.row q.b q.p) {i : Nat} (hi : i ≤ q.b.length) : (q.b ++ [q.row.length]).getD i 0 ≤ q.row.length := by
  obtain ⟨pl, x⟩ := a
  have so := x.sorted.2
  by_cases z : i < q.b.length
  · rw [List.getD_eq_getElem?_getD, List.getElem?_append_left z, List.getElem?_eq_getElem z]
    exact Nat.le_of_lt (so _ (List.getElem_mem _))
  · rw [List.getD_eq_getElem?_getD, List.getElem?_append_right (by omega), show i - q.b.length = 0 by omega]
    exact Nat.le_refl _
theorem e_lfPush {q : Pos} (a : At m q.row q.b q.p) (hb : q.b.length ≤ 100) (hr : q.row.length ≤ 100) (hs : q.as.length ≤ 100) {s : Int} {i : Nat} (hi : i < min m (q.b.length + 1)) (L : List D) (hL : L.length ≤ 200000) (s0 s1 s2 s4 x11 x12 : Sl) (M : Mem) :
    ∃ y11 y12, lfPush [s0, s1, s2, .ow (.lst L), s4, .sh (.int s), .sh (.tup (dN q.as)), .sh (.tup (dI q.row)), .sh (.tup (dN q.b)), .sh (.int q.p), .sh (.int i), x11, x12] M = .ok (.nx, [s0, s1, s2, .ow (.lst (L ++ [(⟨q.row ++ [s], q.as ++ [i], (nxt (q.row ++ [s]) q.b q.p i).1, (nxt (q.row ++ [s]) q.b q.p i).2⟩ : Pos).t])), s4, .sh (.int s), .sh (.tup (dN q.as)), .sh (.tup (dI q.row)), .sh (.tup (dN q.b)), .sh (.int q.p), .sh (.int i), y11, y12]) M := by
  have gl := begin_le a (show i ≤ q.b.length by omega)
  have nx1 : (nxt (q.row ++ [s]) q.b q.p i).1 = q.b.take i ++ [(q.b ++ [q.row.length]).getD i 0] := by unfold nxt; simp
  have nx2 : (nxt (q.row ++ [s]) q.b q.p i).2 = q.p + ((q.row ++ [s]).drop ((q.b ++ [q.row.length]).getD i 0)).sum := by unfold nxt; simp
  generalize hg : (q.b ++ [q.row.length]).getD i 0 = g at nx1 nx2 gl
  have ds : ((q.row ++ [s]).drop g).sum = (q.row.drop g).sum + s := by rw [List.drop_append_of_le_length gl, List.sum_append]; simp
  have e5 : cutD (dI q.row) (some (g : Int)) none = (dI q.row).drop g := cutD_lo
  have e6 : gSum (.tup ((dI q.row).drop g)) = some (.int (q.row.drop g).sum) := by rw [← List.map_drop]; exact gSum_tup _
  have e7 : dN (q.b.take i) ++ [D.int g] = dN (q.b.take i ++ [g]) := dN_snoc _ _
  have e8 : dN q.as ++ [D.int i] = dN (q.as ++ [i]) := dN_snoc _ _
  have e9 : dI q.row ++ [D.int s] = dI (q.row ++ [s]) := by simp
  have ct := cut_take q.b i
  have l0 : 1 ≤ sizeMax := by decide
  have l4 : 4 ≤ sizeMax := by decide
  have l1 : min i q.b.length + 1 ≤ sizeMax := by unfold sizeMax; omega
  have l2 : q.as.length + 1 ≤ sizeMax := by unfold sizeMax; omega
  have l3 : q.row.length + 1 ≤ sizeMax := by unfold sizeMax; omega
  have l5 : L.length < sizeMax := by unfold sizeMax; omega
  have ixb : i < q.b.length → gIx (.tup (dN q.b)) (.int i) = some (.int g) := fun z => by
    have gi : (q.b ++ [q.row.length]).getD i 0 = q.b[i] := by rw [List.getD_eq_getElem?_getD, List.getElem?_append_left z, List.getElem?_eq_getElem z]; rfl
    have gi : q.b[i] = g := by rw [← gi]; exact hg
    show (ixN (dN q.b).length i).bind (fun j => (dN q.b)[j]?) = _
    rw [show (dN q.b).length = q.b.length by simp, ixN_nat q.b.length i z]
    simp [z, gi]
  have gr : ¬ i < q.b.length → g = q.row.length := fun z => by
    have zi : i = q.b.length := by omega
    rw [← hg, List.getD_eq_getElem?_getD, List.getElem?_append_right (by omega), zi]; simp
  have tD : (⟨q.row ++ [s], q.as ++ [i], (nxt (q.row ++ [s]) q.b q.p i).1, (nxt (q.row ++ [s]) q.b q.p i).2⟩ : Pos).t = .tup [.tup (dN (q.as ++ [i])), .tup (dI (q.row ++ [s])), .tup (dN (q.b.take i ++ [g])), .int (q.p + (q.row.drop g).sum + s)] := by
    show D.tup [.tup (dN (q.as ++ [i])), .tup (dI (q.row ++ [s])), .tup (dN (nxt (q.row ++ [s]) q.b q.p i).1), .int (nxt (q.row ++ [s]) q.b q.p i).2] = _
    rw [nx1, nx2, ds, Int.add_assoc]
  rw [tD]
  generalize hS : (q.row.drop g).sum = SM at *
  refine ⟨.sh (.int g), .sh (.int (q.p + SM + s)), ?_⟩
  have la : (dN q.as).length = q.as.length := by simp
  have lr : (dI q.row).length = q.row.length := by simp
  have lb : (dN q.b).length = q.b.length := by simp
  have lt : (dN (q.b.take i)).length = min i q.b.length := by simp
  generalize dN (q.as ++ [i]) = A1 at *
  generalize dI (q.row ++ [s]) = R1 at *
  generalize dN (q.b.take i ++ [g]) = B1 at *
  generalize dN (q.b.take i) = B2 at *
  generalize dN q.as = A0 at *
  generalize dI q.row = R0 at *
  generalize dN q.b = B0 at *
  by_cases z : i < q.b.length
  · have ixb := ixb z
    simp [lfPush, lb, z, ixb, e5, e6, l0, l1, l2, l3, l4, l5, la, lr, lt, ct, e7, e8, e9, -gIx]
  · have gr := gr z
    have e5' : cutD R0 (some (q.row.length : Int)) none = R0.drop g := by rw [← gr]; exact e5
    have e7' : B2 ++ [D.int q.row.length] = B1 := by rw [← gr]; exact e7
    rw [gr]
    rw [gr] at e6 e5'
    simp [lfPush, lb, z, e5', e6, l0, l1, l2, l3, l4, l5, la, lr, lt, ct, e7', e8, e9, -gIx]
end
end K82
namespace K82
open PySem J PM PG
theorem flatI : ∀ (n : Nat) (is : List Int), flatDs n (dI is) = true
  | n, [] => by simp [flatDs]
  | n, i :: is => by
    have := flatI n is
    simp only [List.map_cons, flatDs, this, Bool.and_true]
    cases n <;> rfl
theorem gEq_row {row : List Int} (ne : row ≠ []) : gEq (.tup (dI row)) (.tup []) = some (.bl false) := by
  have f1 : flatD 64 (.tup (dI row)) = true := by
    show flatDs 63 (dI row) = true
    exact flatI 63 row
  have f2 : flatD 64 (.tup []) = true := by decide
  have e : eqD (.tup (dI row)) (.tup []) = false := by
    cases row with
    | nil => exact absurd rfl ne
    | cons a t => rfl
  show (if flatD 64 (.tup (dI row)) && flatD 64 (.tup []) then some (D.bl (eqD (.tup (dI row)) (.tup []))) else none) = _
  rw [f1, f2, e]; rfl
section
variable {m h k : Nat} {r : Q} {c0 : Cell × Mem}
theorem e_lfKids {q : Pos} (a : At m q.row q.b q.p) (hb : q.b.length ≤ 100) (hr : q.row.length ≤ 100) (hs : q.as.length ≤ 100) {s : Int} (s0 s1 s2 s4 : Sl) (M : Mem) : ∀ (is : List Nat) (L : List D) (x10 x11 x12 : Sl), (∀ i ∈ is, i < min m (q.b.length + 1)) → L.length + is.length ≤ 200000 →
    ∃ y10 y11 y12, forL (gN 10) lfPush (dN is) [s0, s1, s2, .ow (.lst L), s4, .sh (.int s), .sh (.tup (dN q.as)), .sh (.tup (dI q.row)), .sh (.tup (dN q.b)), .sh (.int q.p), x10, x11, x12] M = .ok (.nx, [s0, s1, s2, .ow (.lst (L ++ is.map fun i => (⟨q.row ++ [s], q.as ++ [i], (nxt (q.row ++ [s]) q.b q.p i).1, (nxt (q.row ++ [s]) q.b q.p i).2⟩ : Pos).t)), s4, .sh (.int s), .sh (.tup (dN q.as)), .sh (.tup (dI q.row)), .sh (.tup (dN q.b)), .sh (.int q.p), y10, y11, y12]) M
  | [], L, x10, x11, x12, _, _ => ⟨x10, x11, x12, by rw [List.map_nil, List.append_nil]; rfl⟩
  | i :: is, L, x10, x11, x12, hi, hl => by
    rw [List.length_cons] at hl
    obtain ⟨y11, y12, e⟩ := e_lfPush a hb hr hs (s := s) (hi i List.mem_cons_self) L (by omega) s0 s1 s2 s4 x11 x12 M
    obtain ⟨z10, z11, z12, e2⟩ := e_lfKids a hb hr hs s0 s1 s2 s4 M is (L ++ [(⟨q.row ++ [s], q.as ++ [i], (nxt (q.row ++ [s]) q.b q.p i).1, (nxt (q.row ++ [s]) q.b q.p i).2⟩ : Pos).t]) (.sh (.int i)) y11 y12 (fun j hj => hi j (List.mem_cons_of_mem _ hj)) (by rw [List.length_append, List.length_singleton]; omega)
    refine ⟨z10, z11, z12, ?_⟩
    rw [List.append_assoc] at e2
    rw [List.map_cons]
    refine Eq.trans ?_ e2
    show (match lfPush [s0, s1, s2, .ow (.lst L), s4, .sh (.int s), .sh (.tup (dN q.as)), .sh (.tup (dI q.row)), .sh (.tup (dN q.b)), .sh (.int q.p), .sh (.int i), x11, x12] M with | .ok (.nx, E) M => forL (gN 10) lfPush (dN is) E M | .ok (.ct, E) M => forL (gN 10) lfPush (dN is) E M | .ok (.bk, E) M => .ok (.nx, E) M | r => r) = _
    rw [e]
theorem e_lfIn (hm : 1 ≤ m) (hm4 : m ≤ 4) (k1 : 1 ≤ k) (hk : k ≤ 4) (hh : h ≤ 6) (hp : k ^ h ≤ 400) (hr1 : 0 ≤ r.1) (hr2 : 0 < r.2) {B kvs : List (List Key × D)} {j : Nat} (hT : c0.2[j]? = some (.dT B)) (xl : LD m h k kvs) {q : Pos} (ok : PosOk m k h r B q) (st : List Pos) (hst : st.length ≤ 100000) (c : Int) (x5 x6 x7 x8 x9 x10 x11 x12 : Sl) :
    ∃ (cs : List Pos) (y5 y6 y7 y8 y9 y10 y11 y12 : Sl) (kvs' : List (List Key × D)), (∀ p ∈ cs, PosOk m k h r B p) ∧ (q.fe m k h r).length = 1 + (cs.map fun p => (p.fe m k h r).length).sum ∧ LD m h k kvs' ∧
      lfIn [.sh (gameL m h k), .sh (pD r), .sh (.loc (j + 2)), .ow (.lst (stackT (q :: st))), .sh (.int c), x5, x6, x7, x8, x9, x10, x11, x12] (LM c0 kvs) = .ok (.nx, [.sh (gameL m h k), .sh (pD r), .sh (.loc (j + 2)), .ow (.lst (stackT (cs.reverse ++ st))), .sh (.int (c + 1)), y5, y6, y7, y8, y9, y10, y11, y12]) (LM c0 kvs') := by
  have sb := ok.at_.small ok.row hk (by have := ok.len; omega)
  have vM : view (LM c0 kvs) (.loc (j + 2)) = .dT B := view_loc _ _ _ (lm_at hT)
  have pop : (stackT st ++ [q.t])[(stackT st ++ [q.t]).length - 1]? = some q.t := by simp
  have dl : (stackT st ++ [q.t]).dropLast = stackT st := List.dropLast_concat
  have tD : q.t = .tup [.tup (dN q.as), .tup (dI q.row), .tup (dN q.b), .int q.p] := rfl
  obtain ⟨g0, g1, g2⟩ := gEl (m := m) (h := h) (k := k)
  have ka := keysOf_dN q.as
  rw [stackT_cons]
  rcases pos_case hm hr1 hr2 ok with ⟨ab, lk, len⟩ | ⟨nab, hl, s, hs, lk, kids, len⟩
  · have ne : q.row ≠ [] := by
      intro z
      unfold above at ab
      rw [z] at ab
      simp at ab
    obtain ⟨kvs', ed, xl'⟩ := e_due (c0 := c0) hm k1 hh hp ok.row ne ok.len xl
    have sd := (due_dueOf hm).sm ne ok.at_ ok.row hk (by have := ok.len; omega)
    have ni : gNotIn (.tup (dN q.as)) (.dT B) = some (.bl false) := by
      rw [gNotIn_dT, any_of lk]; rfl
    have ix : gIx (.dT B) (.tup (dN q.as)) = some (.int 0) := by rw [gIx_dT]; exact lk
    have wh := e_whole 0 0 k (by omega) (by omega)
    have m1 : gMul (.int q.p) (.int r.2) = some (.int (q.p * r.2)) := gm_sm sb.1 sb.2.1
    have m2 := gMul_int r.1 (dueOf m q.row) (.inr (sm64 (by have := sd.2.2.1; omega) sd.2.2.2))
    have nle : ¬ q.p * r.2 ≤ r.1 * dueOf m q.row := by
      unfold above more at ab
      simp [ne] at ab
      omega
    have ge := gEq_row ne
    have rq0 : gIx (.tup [.int r.1, .int r.2]) (.int 0) = some (.int r.1) := rfl
    have rq1 : gIx (.tup [.int r.1, .int r.2]) (.int 1) = some (.int r.2) := rfl
    have rv : ∀ M, view M (pD r) = .tup [.int r.1, .int r.2] := fun _ => rfl
    refine ⟨[], .sh (.int 0), .sh (.tup (dN q.as)), .sh (.tup (dI q.row)), .sh (.tup (dN q.b)), .sh (.int q.p), x10, x11, x12, kvs', fun p hp => (nomatch hp), by rw [len]; rfl, xl', ?_⟩
    have e0 : stackT (([] : List Pos).reverse ++ st) = stackT st := rfl
    rw [e0]
    rw [tD] at pop dl ⊢
    generalize hdu : dueOf m q.row = du at *
    generalize dN q.as = AS at *
    generalize dI q.row = RW at *
    generalize dN q.b = BB at *
    generalize stackT st = ST at *
    simp [lfIn, -List.length_append, pop, dl, vM, view_gl, ni, ix, wh, g2, ge, rv, rq0, rq1, m1, m2, ed, nle, -gIx]
  · have ni : gNotIn (.tup (dN q.as)) (.dT B) = some (.bl false) := by
      rw [gNotIn_dT, any_of lk]; rfl
    have ix : gIx (.dT B) (.tup (dN q.as)) = some (.int s) := by rw [gIx_dT]; exact lk
    obtain ⟨s1, s2⟩ := mem_sizes.mp hs
    have wh := e_whole s 0 k (by omega) s2
    have n0 : ¬ s = 0 := by omega
    have nl : ¬ q.row.length = h := by omega
    have nli : ¬ (q.row.length : Int) = h := by omega
    have e1 : (min (q.b.length : Int) ((m : Int) - 1) + 1) = ((min m (q.b.length + 1) : Nat) : Int) := by omega
    have e3 : ((min m (q.b.length + 1) : Nat) : Int).toNat = min m (q.b.length + 1) := by omega
    have e4 : ((min m (q.b.length + 1) : Nat) : Int).natAbs ≤ sizeMax := by unfold sizeMax; omega
    have e2 := upFrom0 (min m (q.b.length + 1))
    have ls : (stackT st).length = st.length := by unfold stackT; rw [List.length_map, List.length_reverse]
    obtain ⟨z10, z11, z12, e⟩ := e_lfKids (s := s) ok.at_ (by omega) (by have := ok.len; omega) (by have := ok.as; have := ok.len; omega) (.sh (gameL m h k)) (.sh (pD r)) (.sh (.loc (j + 2))) (.sh (.int (c + 1))) (LM c0 kvs) (List.range (min m (q.b.length + 1))) (stackT st) x10 x11 x12 (fun i hi => List.mem_range.mp hi) (by rw [ls, List.length_range]; omega)
    have ek : ((List.range (min m (q.b.length + 1))).map fun i => (⟨q.row ++ [s], q.as ++ [i], (nxt (q.row ++ [s]) q.b q.p i).1, (nxt (q.row ++ [s]) q.b q.p i).2⟩ : Pos).t) = (q.kids m s).map Pos.t := by unfold Pos.kids; rw [List.map_map]; rfl
    rw [ek] at e
    refine ⟨q.kids m s, .sh (.int s), .sh (.tup (dN q.as)), .sh (.tup (dI q.row)), .sh (.tup (dN q.b)), .sh (.int q.p), z10, z11, z12, kvs, kids, len, xl, ?_⟩
    rw [stackT_kids]
    rw [tD] at pop dl ⊢
    have lb : (dN q.b).length = q.b.length := by simp
    have lr : (dI q.row).length = q.row.length := by simp
    generalize (q.kids m s).map Pos.t = KT at *
    generalize hRN : (List.range (min m (q.b.length + 1))).map (fun i : Nat => D.int (i : Int)) = RN at *
    generalize hZ : ((min m (q.b.length + 1) : Nat) : Int) = Z at *
    generalize min m (q.b.length + 1) = N at *
    generalize dN q.as = AS at *
    generalize dI q.row = RW at *
    generalize dN q.b = BB at *
    generalize stackT st = ST at *
    generalize hMM : LM c0 kvs = MM at *
    generalize hLP : lfPush = LP at e
    have sh : lfIn = (sSeq (sPop (gT [(gN 6), (gN 7), (gN 8), (gN 9)]) (rOwn 3)) (sSeq (sAsg (gN 4) (c2 gAdd (cV 4) (cC (.int 1)))) (sSeq (sIf (tOr (tV (c2 gNotIn (cV 6) (cV 2))) (tNot (tV (cCall0 (ifN 3 F__law_whole) (aCons (c2 gIx (cV 2) (cV 6)) (aCons (cC (.int 0)) (aCons (c2 gIx (cV 0) (cC (.int 2))) aNil))))))) (sRet (cC (.bl false))) sNil) (sSeq (sAsg (gN 5) (c2 gIx (cV 2) (cV 6))) (sIf (tV (c2 gEq (cV 5) (cC (.int 0)))) (sIf (tOr (tV (c2 gEq (cV 7) (cTup aNil))) (tV (c2 gLe (c2 gMul (cV 9) (c2 gIx (cV 1) (cC (.int 1)))) (c2 gMul (c2 gIx (cV 1) (cC (.int 0))) (cCall0 (ifN 2 F__law_due) (aCons (cV 0) (aCons (cV 7) aNil))))))) (sRet (cC (.bl false))) sNil) (sIf (tV (c2 gEq (c1 gLen (cV 7)) (c2 gIx (cV 0) (cC (.int 1))))) (sRet (cC (.bl false))) (sFor (iRng (c2 gAdd (c2 gMin2 (c1 gLen (cV 8)) (c2 gSub (c2 gIx (cV 0) (cC (.int 0))) (cC (.int 1)))) (cC (.int 1)))) (gN 10) LP))))))) := by rw [← hLP]; rfl
    rw [sh]
    simp [-List.length_append, pop, dl, vM, view_gl, ni, ix, wh, g0, g1, g2, n0, nl, nli, lb, lr, e1, e3, e4, e2, -gIx]
    rw [← hRN]
    exact e
theorem e_lfLoop (hm : 1 ≤ m) (hm4 : m ≤ 4) (k1 : 1 ≤ k) (hk : k ≤ 4) (hh : h ≤ 6) (hp : k ^ h ≤ 400) (hr1 : 0 ≤ r.1) (hr2 : 0 < r.2) {B : List (List Key × D)} {j : Nat} (hT : c0.2[j]? = some (.dT B)) :
    ∀ (T : Nat) (st : List Pos) (c : Int) (x5 x6 x7 x8 x9 x10 x11 x12 : Sl) (n : Nat) (kvs : List (List Key × D)), LD m h k kvs → (∀ q ∈ st, PosOk m k h r B q) → tot m k h r st = T → T < n → T ≤ 50000 →
    ∃ (y5 y6 y7 y8 y9 y10 y11 y12 : Sl) (kvs' : List (List Key × D)), LD m h k kvs' ∧ whileN (tV (c2 gGt (c1 gLen (oV 3)) (cC (.int 0)))) lfIn n [.sh (gameL m h k), .sh (pD r), .sh (.loc (j + 2)), .ow (.lst (stackT st)), .sh (.int c), x5, x6, x7, x8, x9, x10, x11, x12] (LM c0 kvs) = .ok (.nx, [.sh (gameL m h k), .sh (pD r), .sh (.loc (j + 2)), .ow (.lst []), .sh (.int (c + T)), y5, y6, y7, y8, y9, y10, y11, y12]) (LM c0 kvs')
  | T, [], c, x5, x6, x7, x8, x9, x10, x11, x12, n, kvs, xl, ok, ht, hn, _ => by
    obtain ⟨n', rfl⟩ : ∃ n', n = n' + 1 := ⟨n - 1, by omega⟩
    have : T = 0 := by rw [← ht]; rfl
    subst this
    refine ⟨x5, x6, x7, x8, x9, x10, x11, x12, kvs, xl, ?_⟩
    have e0 : stackT [] = [] := rfl
    rw [e0, whileN]
    simp
  | 0, q :: st, c, x5, x6, x7, x8, x9, x10, x11, x12, n, kvs, xl, ok, ht, hn, _ => by
    have h1 := fe_one hm hr1 hr2 (ok q List.mem_cons_self)
    rw [tot_cons] at ht; omega
  | T + 1, q :: st, c, x5, x6, x7, x8, x9, x10, x11, x12, n, kvs, xl, ok, ht, hn, hT2 => by
    obtain ⟨n', rfl⟩ : ∃ n', n = n' + 1 := ⟨n - 1, by omega⟩
    have lt := len_tot hm hr1 hr2 st fun x hx => ok x (List.mem_cons_of_mem _ hx)
    rw [tot_cons] at ht
    obtain ⟨cs, y5, y6, y7, y8, y9, y10, y11, y12, kvs1, okc, len, xl1, e⟩ := e_lfIn hm hm4 k1 hk hh hp hr1 hr2 hT xl (ok q List.mem_cons_self) st (by omega) c x5 x6 x7 x8 x9 x10 x11 x12
    have tk : tot m k h r (cs.reverse ++ st) = T := by rw [tot_kids]; omega
    obtain ⟨z5, z6, z7, z8, z9, z10, z11, z12, kvs2, xl2, e2⟩ := e_lfLoop hm hm4 k1 hk hh hp hr1 hr2 hT T (cs.reverse ++ st) (c + 1) y5 y6 y7 y8 y9 y10 y11 y12 n' kvs1 xl1 (fun x hx => by
      rcases List.mem_append.mp hx with z | z
      · exact okc x (List.mem_reverse.mp z)
      · exact ok x (List.mem_cons_of_mem _ z)) tk (by omega) (by omega)
    refine ⟨z5, z6, z7, z8, z9, z10, z11, z12, kvs2, xl2, ?_⟩
    rw [show c + ((T + 1 : Nat) : Int) = c + 1 + T by omega, ← e2, whileN]
    have ls : (stackT (q :: st)).length = st.length + 1 := by unfold stackT; rw [List.length_map, List.length_reverse, List.length_cons]
    generalize hS : stackT (q :: st) = S at e ls ⊢
    have pos : (0 : Int) < S.length := by omega
    generalize lfIn = FI at e ⊢
    simp [ls, e]
theorem e_law_isf (hm : 1 ≤ m) (hm4 : m ≤ 4) (k1 : 1 ≤ k) (hk : k ≤ 4) (hh : h ≤ 6) (hp : k ^ h ≤ 400) (hr1 : 0 ≤ r.1) (hr2 : 0 < r.2) {j : Nat} (hT : c0.2[j]? = some (.dT ((FEm m k h r (h + 1) [] [] [] 0).map ent))) (g0 : gD m k h r [] [] 0 = false) {kvs : List (List Key × D)} (xl : LD m h k kvs) :
    ∃ kvs', F__law_is_foes [gameL m h k, pD r, .loc (j + 2)] (LM c0 kvs) = .ok (.bl true) (LM c0 kvs') ∧ LD m h k kvs' := by
  have rt := root_tot (k := k) (r := r) hm4 hh
  have tt : tot m k h r [⟨[], [], [], 0⟩] = (FEm m k h r (h + 1) [] [] [] 0).length := by
    unfold tot Pos.fe
    simp
  obtain ⟨y5, y6, y7, y8, y9, y10, y11, y12, kvs', xl', el⟩ := e_lfLoop hm hm4 k1 hk hh hp hr1 hr2 hT _ [⟨[], [], [], 0⟩] 0 .un .un .un .un .un .un .un .un 20000 kvs xl (fun q hq => by rw [List.mem_singleton.mp hq]; exact root_ok g0) tt rt (by omega)
  refine ⟨kvs', ?_, xl'⟩
  have s0 : stackT [⟨[], [], [], 0⟩] = [.tup [.tup [], .tup [], .tup [], .int 0]] := rfl
  rw [s0] at el
  have lB : ((FEm m k h r (h + 1) [] [] [] 0).map ent).length = (FEm m k h r (h + 1) [] [] [] 0).length := List.length_map ..
  have hM : (LM c0 kvs)[j + 2]? = some (.dT ((FEm m k h r (h + 1) [] [] [] 0).map ent)) := lm_at hT
  have hM' : (LM c0 kvs')[j + 2]? = some (.dT ((FEm m k h r (h + 1) [] [] [] 0).map ent)) := lm_at hT
  rw [lf_shape]
  generalize hB : (FEm m k h r (h + 1) [] [] [] 0).map ent = B at *
  generalize (FEm m k h r (h + 1) [] [] [] 0).length = n at *
  generalize hMM : LM c0 kvs = MM at *
  generalize hMM' : LM c0 kvs' = MM' at *
  generalize whileN (tV (c2 gGt (c1 gLen (oV 3)) (cC (.int 0)))) lfIn 20000 = W at el ⊢
  have l1 : 1 ≤ sizeMax := by decide
  have l4 : 4 ≤ sizeMax := by decide
  simp [hM, hM', J.cellOf, el, lB, l1, l4]
end
end K82
namespace K82
open PySem J PM PG
theorem gcd_low {q : Q} (h0 : 0 ≤ q.1) (h : 0 < q.2) : Int.gcd (low q).1 (low q).2 = 1 := by
  obtain ⟨a, b⟩ := q
  dsimp only at h0 h
  obtain ⟨x, rfl⟩ := Int.eq_ofNat_of_zero_le h0
  obtain ⟨y, rfl⟩ := Int.eq_ofNat_of_zero_le (show 0 ≤ b by omega)
  have e := Nat.gcd_div_gcd_div_gcd_of_pos_right (n := x) (m := y) (by omega)
  show Int.gcd ((x : Int) / (Int.gcd (x : Int) (y : Int) : Int)) ((y : Int) / (Int.gcd (x : Int) (y : Int) : Int)) = 1
  have g : Int.gcd (x : Int) (y : Int) = Nat.gcd x y := rfl
  rw [g, ← Int.natCast_ediv, ← Int.natCast_ediv]
  exact e
theorem rt_low {q : Q} (h0 : 0 ≤ q.1) (h : 0 < q.2) (h2 : q.2 < 1073741824) : Rt (low q) :=
  ⟨Int.ediv_nonneg h0 (by omega), low_pos h, by
    have := Int.ediv_le_self (Int.gcd q.1 q.2 : Int) (show 0 ≤ q.2 by omega)
    show q.2 / _ < 1073741824; omega, gcd_low h0 h⟩
@[simp] theorem pow30 : gPow (.int 10) (.int 30) = some (.int 1000000000000000000000000000000) := by rfl
def HandC (c : Cell) : Prop := ∃ cells p b c' d, 0 ≤ b ∧ c = hd cells p b c' d
theorem e_drawL {c0 : Cell × Mem} {kvs : List (List Key × D)} (hc : HandC c0.1) (n : Int) (h1 : 0 < n) (h2 : n < 1073741824) : ∃ (i : Int) (c1 : Cell), F__law_draw [.loc 0, .int n] (LM c0 kvs) = .ok (.int i) (LM (c1, c0.2) kvs) ∧ HandC c1 ∧ 0 ≤ i ∧ i < n := by
  obtain ⟨cells, p, b, c', d, hb, e⟩ := hc
  obtain ⟨i, M', e1, ⟨cells', p', b', c2, d', hb', eM⟩, i1, i2⟩ := e_draw (T := .dT kvs :: c0.2) (LM c0 kvs) n ⟨cells, p, b, c', d, hb, by unfold LM; rw [e]⟩ h1 h2
  exact ⟨i, hd cells' p' b' c2 d', by rw [e1, eM]; rfl, ⟨cells', p', b', c2, d', hb', rfl⟩, i1, i2⟩
theorem pick_lst {L : List Q} {i : Int} (h0 : 0 ≤ i) (h : i < L.length) : ∃ q ∈ L, gIx (.lst (L.map pD)) (.int i) = some (pD q) := by
  obtain ⟨n, rfl⟩ := Int.eq_ofNat_of_zero_le h0
  have hn : n < L.length := by omega
  refine ⟨L[n], List.getElem_mem _, ?_⟩
  show (ixN (L.map pD).length (n : Int)).bind (fun j => (L.map pD)[j]?) = _
  rw [List.length_map, ixN_nat _ _ hn]
  simp [hn]
theorem e_law_more2 {p q : Q} (hp : Sm p) (M : Mem) : F__law_more [pD p, pD q] M = .ok (.bl (more p q)) M := by
  have a1 := gm_sm (b := q.2) hp.1 hp.2.1
  have a2 := gMul_int q.1 p.2 (.inr (sm64 (by have := hp.2.2.1; omega) hp.2.2.2))
  simp [F__law_more, pD, a1, a2, more, ixN]
section
variable {m h k : Nat}
theorem e_ratio {c0 : Cell × Mem} {kvs : List (List Key × D)} (hc : HandC c0.1) {d : Q} (sd : Sm d) (d1 : 1 ≤ d.1) : ∃ (r : Q) (c1 : Cell), F__law_ratio [.loc 0, pD d] (LM c0 kvs) = .ok (pD r) (LM (c1, c0.2) kvs) ∧ HandC c1 ∧ Rt r := by
  obtain ⟨i1, c1, e1, hc1, a1, b1⟩ := e_drawL (kvs := kvs) hc 50 (by decide) (by decide)
  obtain ⟨i2, c2, e2, hc2, a2, b2⟩ := e_drawL (c0 := (c1, c0.2)) (kvs := kvs) hc1 30 (by decide) (by decide)
  obtain ⟨i3, c3, e3, hc3, a3, b3⟩ := e_drawL (c0 := (c2, c0.2)) (kvs := kvs) hc2 20 (by decide) (by decide)
  obtain ⟨i4, c4, e4, hc4, a4, b4⟩ := e_drawL (c0 := (c3, c0.2)) (kvs := kvs) hc3 9 (by decide) (by decide)
  let L : List Q := [d, d, (d.1 * (1 + i1) - 1, d.2 * (1 + i1)), (d.1 * (1 + i1) + 1, d.2 * (1 + i1)), (0, 1), (1, 1), (4, 1), (1 + i2, 1 + i3), (1000000000000000000000000000000, 7)]
  obtain ⟨q, hq, pq⟩ := pick_lst (L := L) a4 (show i4 < (L.length : Int) from b4)
  have p2 : 0 ≤ d.1 * (1 + i1) := Int.mul_nonneg (by omega) (by omega)
  have p3 : 1 * 1 ≤ d.1 * (1 + i1) := Int.mul_le_mul d1 (by omega) (by omega) (by omega)
  have p4 : 0 < d.2 * (1 + i1) := Int.mul_pos sd.2.2.1 (by omega)
  have p5 : d.2 * (1 + i1) ≤ 200 * 50 := Int.mul_le_mul sd.2.2.2 (by omega) (by omega) (by omega)
  have q0 : 0 ≤ q.1 ∧ 0 < q.2 ∧ q.2 < 1073741824 := by
    have s1 := sd.2.2.1
    have s2 := sd.2.2.2
    simp only [L, List.mem_cons, List.not_mem_nil, or_false] at hq
    rcases hq with rfl | rfl | rfl | rfl | rfl | rfl | rfl | rfl | rfl <;> first | omega | (dsimp only; omega)
  have el := e_law_lowest q0.1 q0.2.1 q0.2.2 (LM (c4, c0.2) kvs)
  refine ⟨low q, c4, ?_, hc4, rt_low q0.1 q0.2.1 q0.2.2⟩
  have m1 : gMul (.int d.1) (.int (1 + i1)) = some (.int (d.1 * (1 + i1))) := gm_sm sd.1 sd.2.1
  have m2 : gMul (.int d.2) (.int (1 + i1)) = some (.int (d.2 * (1 + i1))) := gm_sm (by have := sd.2.2.1; omega) sd.2.2.2
  have x0 : gIx (.tup [.int d.1, .int d.2]) (.int 0) = some (.int d.1) := rfl
  have x1 : gIx (.tup [.int d.1, .int d.2]) (.int 1) = some (.int d.2) := rfl
  have vd : ∀ M, view M (.tup [.int d.1, .int d.2]) = .tup [.int d.1, .int d.2] := fun _ => rfl
  have pq : gIx (.lst [.tup [.int d.1, .int d.2], .tup [.int d.1, .int d.2], .tup [.int (d.1 * (1 + i1) - 1), .int (d.2 * (1 + i1))], .tup [.int (d.1 * (1 + i1) + 1), .int (d.2 * (1 + i1))], .tup [.int 0, .int 1], .tup [.int 1, .int 1], .tup [.int 4, .int 1], .tup [.int (1 + i2), .int (1 + i3)], .tup [.int 1000000000000000000000000000000, .int 7]]) (.int i4) = some (pD q) := pq
  have l2 : 2 ≤ sizeMax := by decide
  have l7 : 7 ≤ sizeMax := by decide
  have l8 : 7 < sizeMax := by decide
  have l9 : 9 ≤ sizeMax := by decide
  have l1 : 1 ≤ sizeMax := by decide
  generalize d.1 * (1 + i1) = X1 at *
  generalize d.2 * (1 + i1) = X2 at *
  show F__law_ratio [.loc 0, .tup [.int d.1, .int d.2]] (LM c0 kvs) = _
  generalize hA : LM c0 kvs = MA at *
  generalize hB : LM (c1, c0.2) kvs = MB at *
  generalize hC : LM (c2, c0.2) kvs = MC at *
  generalize hD : LM (c3, c0.2) kvs = MD at *
  generalize hE : LM (c4, c0.2) kvs = ME at *
  simp [F__law_ratio, e1, e2, e3, e4, x0, x1, vd, m1, m2, l1, l2, l7, l8, l9, J.cellOf, pq, el, -gIx]
theorem lm_app (c0 : Cell × Mem) (kvs : List (List Key × D)) (c : Cell) : LM c0 kvs ++ [c] = LM (c0.1, c0.2 ++ [c]) kvs := rfl
theorem lm_len (c0 : Cell × Mem) (kvs : List (List Key × D)) : (LM c0 kvs).length = c0.2.length + 2 := rfl
theorem lm_set (a : Cell) (T : Mem) (kvs : List (List Key × D)) (c c' : Cell) : (LM (a, T ++ [c]) kvs).set (T.length + 2) c' = LM (a, T ++ [c']) kvs := by
  show a :: .dT kvs :: (T ++ [c]).set T.length c' = a :: .dT kvs :: (T ++ [c'])
  simp
theorem last_at (T : Mem) (c : Cell) : (T ++ [c])[T.length]? = some c := by simp
noncomputable def root (m h k : Nat) : Q := held (dueOf m) m k h (0, 1) [] [] 0
theorem fe_nodup {r : Q} : (((FEm m k h r (h + 1) [] [] [] 0).map ent).map (·.1)).Nodup := by
  have nd := FE_nodup (due := dueOf m) (m := m) (k := k) (h := h) (r := r) (h + 1) [] [] [] 0
  rw [List.map_map, List.nodup_iff_pairwise_ne, List.pairwise_map]
  rw [List.nodup_iff_pairwise_ne, List.pairwise_map] at nd
  exact nd.imp fun ne q => ne (keyN_inj q)
theorem fe_root {r : Q} (hr : Rt r) (hm : 1 ≤ m) (g0 : gD m k h r [] [] 0 = false) : inK ((FEm m k h r (h + 1) [] [] [] 0).map ent) [] := by
  have ok := root_ok g0
  rcases pos_case hm hr.n hr.d ok with ⟨_, lk, _⟩ | ⟨_, _, s, _, lk, _⟩
  · exact any_of lk
  · exact any_of lk
theorem e_right {r : Q} (hr : Rt r) (hm : 1 ≤ m) (hm4 : m ≤ 4) (h1 : 1 ≤ h) (hh : h ≤ 6) (k1 : 1 ≤ k) (hk : k ≤ 4) (hp : k ^ h ≤ 400) (c0 : Cell × Mem) {kvs : List (List Key × D)} (xl : LD m h k kvs) (sR : Sm (root m h k)) :
    ∃ T kvs', F__law_right [gameL m h k, pD r, pD (low (root m h k))] (LM c0 kvs) = .ok (.bl true) (LM (c0.1, T) kvs') ∧ LD m h k kvs' := by
  obtain ⟨a, T⟩ := c0
  have em := fun M => e_law_more2 (q := r) sR.low M
  have ml : more (low (root m h k)) r = !(gD m k h r [] [] 0) := by
    unfold gD PG.gd
    rw [Bool.not_not, Bool.eq_iff_iff, more_iff, more_iff, Le_low_left sR.2.2.1]; rfl
  rw [ml] at em
  cases g : gD m k h r [] [] 0 with
  | true =>
    rw [g] at em
    obtain ⟨B, eK, al⟩ := e_kbook (r := r) hr hm hm4 h1 hh k1 hk hp (LM (a, T) kvs)
    obtain ⟨kb, all⟩ := al g
    rw [if_pos g, lm_app, lm_len] at eK
    have eF := (e_fbook (r := r) hr hm hm4 h1 hh k1 hk hp (LM (a, T ++ [.dT B]) kvs)).1 g
    obtain ⟨kvs2, e2, xl2⟩ := e_law_ik (c0 := (a, T ++ [.dT B])) hm hk hh hr.d k1 hp (last_at T (.dT B)) xl kb all g
    have hM2 : (LM (a, T ++ [.dT B]) kvs2)[T.length + 2]? = some (.dT B) := lm_at (c0 := (a, T ++ [.dT B])) (last_at T (.dT B))
    have e3 := e_isk_true hr hm hm4 h1 hh k1 hk hp hM2 kb all g
    have e4 := e_isf_false hr hm hm4 h1 hh k1 hk hp hM2 kb
    have e5 := lm_set a T kvs2 (.dT B) (.dT [])
    obtain ⟨B2, eK2, al2⟩ := e_kbook (r := r) hr hm hm4 h1 hh k1 hk hp (LM (a, T ++ [.dT []]) kvs2)
    obtain ⟨kb2, all2⟩ := al2 g
    rw [if_pos g, lm_app, lm_len] at eK2
    obtain ⟨kvs3, e6, xl3⟩ := e_law_ik (c0 := (a, (T ++ [.dT []]) ++ [.dT B2])) hm hk hh hr.d k1 hp (last_at (T ++ [.dT []]) (.dT B2)) xl2 kb2 all2 g
    refine ⟨(T ++ [.dT []]) ++ [.dT B2], kvs3, ?_, xl3⟩
    dsimp only at eK eK2
    generalize hL1 : LM (a, T) kvs = L1 at *
    generalize hL2 : LM (a, T ++ [.dT B]) kvs = L2 at *
    generalize hL3 : LM (a, T ++ [.dT B]) kvs2 = L3 at *
    generalize hL4 : LM (a, T ++ [.dT []]) kvs2 = L4 at *
    generalize hL5 : LM (a, T ++ [.dT []] ++ [.dT B2]) kvs2 = L5 at *
    generalize hL6 : LM (a, T ++ [.dT []] ++ [.dT B2]) kvs3 = L6 at *
    generalize hn1 : T.length + 2 = n1 at *
    generalize hn2 : (T ++ [Cell.dT []]).length + 2 = n2 at *
    generalize hd : pD (low (root m h k)) = d at *
    have gl : gameL m h k = .lst [.int m, .int h, .int k, .loc 1] := rfl
    rw [gl] at e2 e6 ⊢
    simp [F__law_right, eK, eF, em, e2, e3, e4, hM2, e5, eK2, e6]
  | false =>
    rw [g] at em
    obtain ⟨J0, eK, _⟩ := e_kbook (r := r) hr hm hm4 h1 hh k1 hk hp (LM (a, T) kvs)
    rw [if_neg (by rw [g]; exact Bool.false_ne_true), lm_app] at eK
    have eF := (e_fbook (r := r) hr hm hm4 h1 hh k1 hk hp (LM (a, T ++ [Cell.dT J0]) kvs)).2 g
    rw [lm_app, lm_len] at eF
    have nd := fe_nodup (m := m) (h := h) (k := k) (r := r)
    have i0 := fe_root (h := h) (k := k) hr hm g
    have hB : ∀ p ∈ (FEm m k h r (h + 1) [] [] [] 0).map ent, ∃ w, p.2 = D.int w := fun p hp => by
      obtain ⟨e, _, rfl⟩ := List.mem_map.mp hp
      exact ⟨_, rfl⟩
    obtain ⟨kvs2, e2, xl2⟩ := e_law_isf (r := r) (c0 := (a, (T ++ [Cell.dT J0]) ++ [.dT ((FEm m k h r (h + 1) [] [] [] 0).map ent)])) hm hm4 k1 hk hh hp hr.n hr.d (last_at (T ++ [Cell.dT J0]) _) g xl
    have hM2 : (LM (a, (T ++ [Cell.dT J0]) ++ [.dT ((FEm m k h r (h + 1) [] [] [] 0).map ent)]) kvs2)[(T ++ [Cell.dT J0]).length + 2]? = some (.dT ((FEm m k h r (h + 1) [] [] [] 0).map ent)) := lm_at (c0 := (a, (T ++ [Cell.dT J0]) ++ [.dT ((FEm m k h r (h + 1) [] [] [] 0).map ent)])) (last_at (T ++ [Cell.dT J0]) _)
    have e3 := e_isf_true hr hm hm4 h1 hh k1 hk hp hM2 g
    have e4 := e_isk_false hr hm hm4 h1 hh k1 hk hp hM2 hB nd i0
    have e5 := lm_set a (T ++ [Cell.dT J0]) kvs2 (.dT ((FEm m k h r (h + 1) [] [] [] 0).map ent)) (.dT [])
    have eF2 := (e_fbook (r := r) hr hm hm4 h1 hh k1 hk hp (LM (a, (T ++ [Cell.dT J0]) ++ [.dT []]) kvs2)).2 g
    rw [lm_app, lm_len] at eF2
    obtain ⟨kvs3, e6, xl3⟩ := e_law_isf (r := r) (c0 := (a, ((T ++ [Cell.dT J0]) ++ [.dT []]) ++ [.dT ((FEm m k h r (h + 1) [] [] [] 0).map ent)])) hm hm4 k1 hk hh hp hr.n hr.d (last_at ((T ++ [Cell.dT J0]) ++ [.dT []]) _) g xl2
    refine ⟨((T ++ [Cell.dT J0]) ++ [.dT []]) ++ [.dT ((FEm m k h r (h + 1) [] [] [] 0).map ent)], kvs3, ?_, xl3⟩
    dsimp only at eF eF2 eK
    generalize (FEm m k h r (h + 1) [] [] [] 0).map ent = FB at *
    generalize hL1 : LM (a, T) kvs = L1 at *
    generalize hL2 : LM (a, T ++ [Cell.dT J0]) kvs = L2 at *
    generalize hL3 : LM (a, T ++ [Cell.dT J0] ++ [.dT FB]) kvs = L3 at *
    generalize hL4 : LM (a, T ++ [Cell.dT J0] ++ [.dT FB]) kvs2 = L4 at *
    generalize hL5 : LM (a, T ++ [Cell.dT J0] ++ [.dT []]) kvs2 = L5 at *
    generalize hL6 : LM (a, T ++ [Cell.dT J0] ++ [.dT []] ++ [.dT FB]) kvs2 = L6 at *
    generalize hL7 : LM (a, T ++ [Cell.dT J0] ++ [.dT []] ++ [.dT FB]) kvs3 = L7 at *
    generalize hn1 : (T ++ [Cell.dT J0]).length + 2 = n1 at *
    generalize hn2 : (T ++ [Cell.dT J0] ++ [Cell.dT []]).length + 2 = n2 at *
    generalize hd : pD (low (root m h k)) = d at *
    have gl : gameL m h k = .lst [.int m, .int h, .int k, .loc 1] := rfl
    rw [gl] at e2 e6 ⊢
    simp [F__law_right, eK, eF, em, e2, e3, e4, hM2, e5, eF2, e6]
end
def lawS : CS := sIf (tNot (tV (cCall0 (ifN 3 F__law_right) (aCons (cV 2) (aCons (cCall0 (ifN 2 F__law_ratio) (aCons (cV 1) (aCons (cV 3) aNil))) (aCons (cV 3) aNil)))))) (sRet (cC (.bl false))) sNil
theorem law_shape : F_law = body 5 1 (sSeq (sAsg (gN 1) (cCall0 (ifN 1 F__law_hand) (aCons (cV 0) aNil))) (sSeq (sAsg (gN 2) (cCall0 (ifN 1 F__law_game) (aCons (cV 1) aNil))) (sSeq (sAsg (gN 3) (cCall0 (ifN 1 F__law_surest) (aCons (cV 2) aNil))) (sSeq (sFor (iRng (cIf (tV (c2 gLt (c2 gMul (c2 gIx (cV 2) (cC (.int 1))) (c2 gIx (cV 2) (cC (.int 2)))) (cC (.int 10)))) (cC (.int 3)) (cC (.int 1)))) (gN 4) lawS) (sRet (cC (.bl true))))))) := rfl
theorem e_lawTurn {m h k : Nat} (hm : 1 ≤ m) (hm4 : m ≤ 4) (h1 : 1 ≤ h) (h6 : h ≤ 6) (k1 : 1 ≤ k) (k4 : k ≤ 4) (hp : k ^ h ≤ 400) (sR : Sm (root m h k)) (d1 : 1 ≤ (low (root m h k)).1) (s0 s4 : Sl) (c : Cell × Mem) (kv : List (List Key × D)) (hc : HandC c.1) (xk : LD m h k kv) :
    ∃ (c' : Cell × Mem) (kv' : List (List Key × D)), lawS [s0, .sh (.loc 0), .sh (gameL m h k), .sh (pD (low (root m h k))), s4] (LM c kv) = .ok (.nx, [s0, .sh (.loc 0), .sh (gameL m h k), .sh (pD (low (root m h k))), s4]) (LM c' kv') ∧ HandC c'.1 ∧ LD m h k kv' := by
  obtain ⟨r, c1, er, hc1, rt⟩ := e_ratio (c0 := c) (kvs := kv) hc sR.low d1
  obtain ⟨T', kv', e, xk'⟩ := e_right rt hm hm4 h1 h6 k1 k4 hp (c1, c.2) xk sR
  refine ⟨(c1, T'), kv', ?_, hc1, xk'⟩
  generalize LM c kv = A1 at *
  generalize LM (c1, c.2) kv = A2 at *
  generalize LM ((c1, c.2).1, T') kv' = A3 at e ⊢
  generalize pD (low (root m h k)) = d at *
  simp [lawS, er, e]
theorem e_lawLoop {m h k : Nat} (hm : 1 ≤ m) (hm4 : m ≤ 4) (h1 : 1 ≤ h) (h6 : h ≤ 6) (k1 : 1 ≤ k) (k4 : k ≤ 4) (hp : k ^ h ≤ 400) (sR : Sm (root m h k)) (d1 : 1 ≤ (low (root m h k)).1) (s0 : Sl) : ∀ (n : Nat) (a : Int) (x4 : Sl) (c : Cell × Mem) (kv : List (List Key × D)), HandC c.1 → LD m h k kv →
    ∃ (x4' : Sl) (M' : Mem), forL (gN 4) lawS (upFrom a n) [s0, .sh (.loc 0), .sh (gameL m h k), .sh (pD (low (root m h k))), x4] (LM c kv) = .ok (.nx, [s0, .sh (.loc 0), .sh (gameL m h k), .sh (pD (low (root m h k))), x4']) M'
  | 0, a, x4, c, kv, _, _ => ⟨x4, _, rfl⟩
  | n + 1, a, x4, c, kv, hc, xk => by
    obtain ⟨c', kv', e, hc', xk'⟩ := e_lawTurn hm hm4 h1 h6 k1 k4 hp sR d1 s0 (.sh (.int a)) c kv hc xk
    obtain ⟨x4', M', e3⟩ := e_lawLoop hm hm4 h1 h6 k1 k4 hp sR d1 s0 n (a + 1) (.sh (.int a)) c' kv' hc' xk'
    refine ⟨x4', M', ?_⟩
    rw [upFrom, forL]
    show (match lawS [s0, .sh (.loc 0), .sh (gameL m h k), .sh (pD (low (root m h k))), .sh (.int a)] (LM c kv) with | .ok (.nx, E) M => forL (gN 4) lawS (upFrom (a + 1) n) E M | .ok (.ct, E) M => forL (gN 4) lawS (upFrom (a + 1) n) E M | .ok (.bk, E) M => .ok (.nx, E) M | r => r) = _
    rw [e]
    exact e3
theorem e_rng {c : CE} {E : J.Env} {M : Mem} {n : Int} (hc : c E M = .ok (.int n) M) (h : n.natAbs ≤ sizeMax) : iRng c E M = .ok (upFrom 0 n.toNat) M := by
  simp [hc, h]
theorem e_ten (n : Int) (c : CE) (E : J.Env) (M : Mem) (hc : c E M = .ok (.int n) M) : ∃ b, (tV (c2 gLt c (cC (.int 10)))) E M = .ok b M := by
  by_cases z : n < 10
  · exact ⟨true, by simp [hc, z]⟩
  · exact ⟨false, by simp [hc, z]⟩
theorem e_lawT0 {G : D} {H K hk : Int} (hv : ∀ M, view M G = G) (g1 : gIx G (.int 1) = some (.int H)) (g2 : gIx G (.int 2) = some (.int K)) (mu : gMul (.int H) (.int K) = some (.int hk)) (E : J.Env) (M : Mem) (hE : E[2]? = some (.sh G)) : ∃ b, (tV (c2 gLt (c2 gMul (c2 gIx (cV 2) (cC (.int 1))) (c2 gIx (cV 2) (cC (.int 2)))) (cC (.int 10)))) E M = .ok b M := by
  have e : (c2 gMul (c2 gIx (cV 2) (cC (.int 1))) (c2 gIx (cV 2) (cC (.int 2)))) E M = .ok (.int hk) M := by
    simp [hE, hv, g1, g2, mu, -gIx]
  generalize (c2 gMul (c2 gIx (cV 2) (cC (.int 1))) (c2 gIx (cV 2) (cC (.int 2)))) = c at e ⊢
  exact e_ten hk c E M e
theorem e_lawT {m h k : Nat} (hh : h ≤ 6) (E : J.Env) (M : Mem) (hE : E[2]? = some (.sh (gameL m h k))) : ∃ b, (tV (c2 gLt (c2 gMul (c2 gIx (cV 2) (cC (.int 1))) (c2 gIx (cV 2) (cC (.int 2)))) (cC (.int 10)))) E M = .ok b M :=
  e_lawT0 view_gl gEl.2.1 gEl.2.2 (gm_sm (by omega) (by omega)) E M hE
theorem e_pick (t : CT) (E : J.Env) (M : Mem) (b : Bool) (h : t E M = .ok b M) : ∃ n : Nat, iRng (cIf t (cC (.int 3)) (cC (.int 1))) E M = .ok (upFrom 0 n) M := by
  have l3 : 3 ≤ sizeMax := by decide
  have l1 : 1 ≤ sizeMax := by decide
  cases b with
  | true => exact ⟨3, by simp [h, l3]⟩
  | false => exact ⟨1, by simp [h, l1]⟩
theorem e_lawFn {s G d : D} {M0 M1 M2 : Mem} (e0 : F__law_hand [s] [] = .ok (.loc 0) M0) (e1 : F__law_game [.loc 0] M0 = .ok G M1) (e2 : F__law_surest [G] M1 = .ok d M2) (ec : ∃ n : Nat, iRng (cIf (tV (c2 gLt (c2 gMul (c2 gIx (cV 2) (cC (.int 1))) (c2 gIx (cV 2) (cC (.int 2)))) (cC (.int 10)))) (cC (.int 3)) (cC (.int 1))) [.sh s, .sh (.loc 0), .sh G, .sh d, .un] M2 = .ok (upFrom 0 n) M2)
    (e3 : ∀ n : Nat, ∃ x3 M3, forL (gN 4) lawS (upFrom 0 n) [.sh s, .sh (.loc 0), .sh G, .sh d, .un] M2 = .ok (.nx, [.sh s, .sh (.loc 0), .sh G, .sh d, x3]) M3) : ∃ M, F_law [s] [] = .ok (.bl true) M := by
  obtain ⟨n, er⟩ := ec
  obtain ⟨x3, M3, e3⟩ := e3 n
  rw [law_shape]
  generalize iRng (cIf (tV (c2 gLt (c2 gMul (c2 gIx (cV 2) (cC (.int 1))) (c2 gIx (cV 2) (cC (.int 2)))) (cC (.int 10)))) (cC (.int 3)) (cC (.int 1))) = IT at er ⊢
  generalize lawS = S at e3 ⊢
  generalize upFrom 0 n = U at e3 er
  exact ⟨M3, by simp [e0, e1, e2, er, e3]⟩
theorem law_true (ns : List Int) (h : ns.length ≤ 63) : ∃ M, F_law [.scr (ns.map .int)] [] = .ok (.bl true) M := by
  obtain ⟨M0, e0, hM0⟩ := e_hand ns
  obtain ⟨m, h, k, c0, e1, ⟨T0, hT0⟩, hm, hm4, h1, h6, k1, k4, hp⟩ := e_law_game M0 hM0
  have hc0 : HandC c0.1 := by
    obtain ⟨cells, p, b, c', d, hb, e⟩ := hT0
    exact ⟨cells, p, b, c', d, hb, (List.cons.inj e).1⟩
  obtain ⟨kvs, e2, xl⟩ := e_law_surest (c0 := c0) (kvs := []) hm h1 k1 k4 h6 hp ⟨⟨fun p hp => (nomatch hp)⟩, List.nodup_nil, fun p hp => (nomatch hp)⟩
  have e2 : F__law_surest [gameL m h k] (LM c0 []) = .ok (pD (low (root m h k))) (LM c0 kvs) := e2
  have hd := due_dueOf hm
  have sR : Sm (root m h k) := held_sm hd hm k4 h (0, 1) [] [] 0 (by simp; omega) (fun s hs => (nomatch hs)) ⟨[], .nil⟩ ⟨by decide, by decide, by decide, by decide⟩
  have d1 : 1 ≤ (low (root m h k)).1 := by
    have l1 : Le (1, 1) (root m h k) := by
      obtain ⟨n, rfl⟩ : ∃ n, h = n + 1 := ⟨h - 1, by omega⟩
      exact root_one hd hm k1 n
    have l2 := (Le_low_right (p := (1, 1)) sR.2.2.1).mpr l1
    have : (1 : Int) * (low (root m h k)).2 ≤ (low (root m h k)).1 * 1 := l2
    have := sR.low.2.2.1
    omega
  obtain ⟨b, ec⟩ := e_lawT h6 [.sh (.scr (ns.map .int)), .sh (.loc 0), .sh (gameL m h k), .sh (pD (low (root m h k))), .un] (LM c0 kvs) rfl
  exact e_lawFn e0 e1 e2 (e_pick _ _ _ b ec) fun n => e_lawLoop hm hm4 h1 h6 k1 k4 hp sR d1 (.sh (.scr (ns.map .int))) n 0 .un c0 kvs hc0 xl
end K82
namespace K82
open PySem PySem.Spec L2 J PyProof.Rows

def top (i : Nat) : Stmt := PySem.Challenge.pw_joinshelf_k82_whole_books_just_one.main.body.getD i (.Pass ⟨0, 0, 0, 0⟩)

structure Tx (K : PySem.W.Frag) (mg : Str → Option Value) : Prop where
  b_abs : mg "abs" = none
  b_all : mg "all" = none
  b_any : mg "any" = none
  b_bool : mg "bool" = none
  b_dict : mg "dict" = none
  b_enumerate : mg "enumerate" = none
  b_int : mg "int" = none
  b_isinstance : mg "isinstance" = none
  b_len : mg "len" = none
  b_list : mg "list" = none
  b_min : mg "min" = none
  b_range : mg "range" = none
  b_sum : mg "sum" = none
  b_tuple : mg "tuple" = none
  n_MOST_HOURS_games : NumX mg "MOST_HOURS_games" 6
  n_MOST_HOURS_tasks : NumX mg "MOST_HOURS_tasks" 30
  n_MOST_PRICE : NumX mg "MOST_PRICE" 1000000000
  n_MOST_ROWS : NumX mg "MOST_ROWS" 400
  n_MOST_RUNS : NumX mg "MOST_RUNS" 4
  n_MOST_SIZE : NumX mg "MOST_SIZE" 4
  c0 : ClsX K mg ct 0
  c1 : ClsX K mg ct 1
  c2 : ClsX K mg ct 2
  c3 : ClsX K mg ct 3
  f__law_hand : FunX K mg "_law_hand" (top 56) ["_law_script"]
  f__law_draw : FunX K mg "_law_draw" (top 57) ["_law_hand_here", "_law_many"]
  f__law_game : FunX K mg "_law_game" (top 66) ["_law_hand_here"]
  f__law_least : FunX K mg "_law_least" (top 59) ["_law_sizes", "_law_most"]
  f__law_due : FunX K mg "_law_due" (top 62) ["_law_game_here", "_law_row"]
  f__law_more : FunX K mg "_law_more" (top 60) ["_law_one", "_law_other"]
  f__law_answered : FunX K mg "_law_answered" (top 64) ["_law_game_here", "_law_row", "_law_begins", "_law_paid"]
  f__law_held : FunX K mg "_law_held" (top 63) ["_law_game_here", "_law_row", "_law_begins", "_law_paid"]
  f__law_lowest : FunX K mg "_law_lowest" (top 61) ["_law_pair"]
  f__law_surest : FunX K mg "_law_surest" (top 65) ["_law_game_here"]
  f_is_integer : FunX K mg "is_integer" (top 8) ["thing"]
  f_is_within : FunX K mg "is_within" (top 9) ["thing", "least", "most"]
  f_check_number : FunX K mg "check_number" (top 17) ["thing", "least", "most"]
  f_check_game : FunX K mg "check_game" (top 44) ["most", "hours", "size"]
  f_is_pair : FunX K mg "is_pair" (top 10) ["thing"]
  f_common_divisor : FunX K mg "common_divisor" (top 13) ["one", "other"]
  f_is_fraction : FunX K mg "is_fraction" (top 15) ["thing"]
  f_check_many : FunX K mg "check_many" (top 18) ["number", "most"]
  f_check_small : FunX K mg "check_small" (top 45) ["hours", "size"]
  f_check_ratio_game : FunX K mg "check_ratio_game" (top 46) ["most", "hours", "size", "ratio"]
  m_Game_is_above : MetX K mg ct 3 "is_above" "Game.is_above" (inClass (top 48) 3) ["self", "spot", "ratio"]
  m_Game_answers_at : MetX K mg ct 3 "answers_at" "Game.answers_at" (inClass (top 48) 1) ["self", "spot"]
  f_is_less : FunX K mg "is_less" (top 16) ["one", "other"]
  f_lowest : FunX K mg "lowest" (top 14) ["top", "bottom"]
  f_behind_answer : FunX K mg "behind_answer" (top 36) ["begins", "hour", "answer"]
  i_Spot : IniX K mg ct 2 "Spot" "Spot.__init__" (inClass (top 47) 0) ["self", "row", "answers", "begins", "cost"]
  m_Spot_behind : MetX K mg ct 2 "behind" "Spot.behind" (inClass (top 47) 1) ["self", "size", "answer"]
  m_Game_worth : MetX K mg ct 3 "worth" "Game.worth" (inClass (top 48) 2) ["self", "spot"]
  m_Game_holds : MetX K mg ct 3 "holds" "Game.holds" (inClass (top 48) 6) ["self", "spot", "ratio"]
  m_Game_good_answer : MetX K mg ct 3 "good_answer" "Game.good_answer" (inClass (top 48) 5) ["self", "spot", "size", "ratio"]
  m_Game_keeper_holds : MetX K mg ct 3 "keeper_holds" "Game.keeper_holds" (inClass (top 48) 4) ["self", "spot", "ratio", "book"]
  f_rows_of : FunX K mg "rows_of" (top 37) ["hours", "size"]
  m_Solver_capped : MetX K mg ct 1 "capped" "Solver.capped" (inClass (top 30) 1) ["self", "most", "first", "last"]
  f_may_all : FunX K mg "may_all" (top 29) ["hour", "begin"]
  f_write_of : FunX K mg "write_of" (top 25) ["task", "first", "last"]
  m_Solver_ahead_cost : MetX K mg ct 1 "ahead_cost" "Solver.ahead_cost" (inClass (top 30) 2) ["self", "most", "first", "top"]
  f_look_sum : FunX K mg "look_sum" (top 26) ["task", "begin", "first", "last"]
  m_Solver_span_cost : MetX K mg ct 1 "span_cost" "Solver.span_cost" (inClass (top 30) 6) ["self", "most", "first", "last"]
  m_Solver_behind_cost : MetX K mg ct 1 "behind_cost" "Solver.behind_cost" (inClass (top 30) 3) ["self", "most", "top", "last"]
  m_Solver_top_cost : MetX K mg ct 1 "top_cost" "Solver.top_cost" (inClass (top 30) 4) ["self", "most", "first", "last", "top"]
  m_Solver_own_cost : MetX K mg ct 1 "own_cost" "Solver.own_cost" (inClass (top 30) 5) ["self", "most", "first", "last"]
  i_Solver : IniX K mg ct 1 "Solver" "Solver.__init__" (inClass (top 30) 0) ["self", "task", "may"]
  f_length_of : FunX K mg "length_of" (top 24) ["task"]
  f_least_cost : FunX K mg "least_cost" (top 31) ["task", "most"]
  f_is_row : FunX K mg "is_row" (top 11) ["thing", "size", "least", "most"]
  f_first_wrong_row : FunX K mg "first_wrong_row" (top 12) ["rows", "least", "most"]
  i_Task : IniX K mg ct 0 "Task" "Task.__init__" (inClass (top 22) 0) ["self", "writes", "looks"]
  f_raw_task : FunX K mg "raw_task" (top 23) ["writes", "looks"]
  f_sized_task : FunX K mg "sized_task" (top 27) ["sizes", "look"]
  f_least_there : FunX K mg "least_there" (top 33) ["sizes", "most"]
  i_Game : IniX K mg ct 3 "Game" "Game.__init__" (inClass (top 48) 0) ["self", "most", "hours", "size"]
  f_begin : FunX K mg "begin" (top 49) []
  f_keepers_book : FunX K mg "keepers_book" (top 50) ["most", "hours", "size", "ratio"]
  m_Game_foe_goes : MetX K mg ct 3 "foe_goes" "Game.foe_goes" (inClass (top 48) 7) ["self", "spot", "ratio", "book"]
  f_foes_book : FunX K mg "foes_book" (top 51) ["most", "hours", "size", "ratio"]
  f__law_whole : FunX K mg "_law_whole" (top 58) ["_law_thing", "_law_least_here", "_law_most"]
  f__law_is_foes : FunX K mg "_law_is_foes" (top 69) ["_law_game_here", "_law_ratio_here", "_law_thing"]
  f_is_foes_word : FunX K mg "is_foes_word" (top 53) ["game", "spot", "ratio", "word"]
  f_is_foes_book : FunX K mg "is_foes_book" (top 54) ["most", "hours", "size", "ratio", "thing"]
  f_many_rows : FunX K mg "many_rows" (top 38) ["hours", "size"]
  f_may_stay : FunX K mg "may_stay" (top 35) ["begins", "most", "answer"]
  f_is_keepers_book : FunX K mg "is_keepers_book" (top 52) ["most", "hours", "size", "ratio", "thing"]
  f__law_rows : FunX K mg "_law_rows" (top 67) ["_law_hours", "_law_size"]
  f__law_is_keepers : FunX K mg "_law_is_keepers" (top 68) ["_law_game_here", "_law_ratio_here", "_law_thing"]
  f__law_right : FunX K mg "_law_right" (top 71) ["_law_game_here", "_law_ratio_here", "_law_due_here"]
  f__law_ratio : FunX K mg "_law_ratio" (top 70) ["_law_hand_here", "_law_due_here"]
  f_law : FunX K mg "law" (top 72) ["_law_script"]

section
variable {P : Program} {w : World} {K : PySem.W.Frag} {mg : Str → Option Value} {base : Heap} {k : Nat}

theorem sc__law_hand : FnScope ["_law_script", "_law_cells", "_law_cell"] ["_law_script"] (defScope (top 56)) := ⟨rfl, rfl, rfl, by decide +kernel, rfl, by decide +kernel, by decide +kernel⟩

theorem ok__law_hand (T : Tx K mg) : DefOk P w K mg base ct 1 "_law_hand" 1 F__law_hand :=
  def_ok T.f__law_hand sc__law_hand rfl rfl (by decide) fun f cdv A outer s0 H E hr =>
    have nd := sc__law_hand.nd
    (ss_cons (s_setLc 1 rfl nd (sw_true rfl rfl rfl (by decide +kernel)) (own := [("_law_cell", 2)]) (gt := (gName 2)) (pi_seq (pf_sl (PE.o (pf_v 0)) part_none (part_some pf_int))) (blkOk_by rfl) (fun _ _ _ _ _ => (pg_n 2 nd)) (fun _ _ _ _ _ => ptsf_nil) (fun _ _ _ _ _ => (pf_b1 cf_abs T.b_abs bb_abs (PE.o (pf_ty1 cf_int T.b_int bb_int (PE.o (pf_v 2))))))) (ss_one (s_ret (pf_new (n_lst (paf_cons (pf_v 1) (paf_cons pf_int (paf_cons pf_int (paf_cons (pf_bin of_add (PE.o pf_int) (PE.o (pf_b1 cf_len T.b_len bb_len (PE.o (pf_v 1))))) (paf_cons pf_int paf_nil))))))))))

theorem sc__law_draw : FnScope ["_law_hand_here", "_law_many", "_law_number", "_law_cell", "_law_digit"] ["_law_hand_here", "_law_many"] (defScope (top 57)) := ⟨rfl, rfl, rfl, by decide +kernel, rfl, by decide +kernel, by decide +kernel⟩

theorem ok__law_draw (T : Tx K mg) : DefOk P w K mg base ct 1 "_law_draw" 2 F__law_draw :=
  def_ok T.f__law_draw sc__law_draw rfl rfl (by decide) fun f cdv A outer s0 H E hr =>
    have nd := sc__law_draw.nd
    (ss_cons (s_if (PW.pt (pw_and' (pt_cmp' (of_eq hr.units) (PE.o (pf_ix (hu_of hr) (PE.o (pf_v 0)) (PE.o pf_int))) (PE.o pf_int) (nomark _)) (pw_and1' (pt_cmp' of_lt (PE.o (pf_ix (hu_of hr) (PE.o (pf_v 0)) (PE.o pf_int))) (PE.o (pf_b1 cf_len T.b_len bb_len (PE.o (pf_ix (hu_of hr) (PE.o (pf_v 0)) (PE.o pf_int))))) (nomark _))))) (ss_cons (s_set 3 nd (pf_ix (hu_of hr) (PE.o (pf_ix (hu_of hr) (PE.o (pf_v 0)) (PE.o pf_int))) (PE.o (pf_ix (hu_of hr) (PE.o (pf_v 0)) (PE.o pf_int))))) (ss_cons (s_setL (pr_loc (pf_v 0)) pf_int (pf_bin of_add (PE.o (pf_ix (hu_of hr) (PE.o (pf_v 0)) (PE.o pf_int))) (PE.o pf_int))) (ss_cons (s_setL (pr_loc (pf_v 0)) pf_int (pf_bin of_mod (PE.o (pf_ty1 cf_int T.b_int bb_int (PE.o (pf_bin of_add (PE.o (pf_bin of_add (PE.o (pf_bin of_mul (PE.o (pf_ix (hu_of hr) (PE.o (pf_v 0)) (PE.o pf_int))) (PE.o pf_int))) (PE.o (pf_v 3)))) (PE.o pf_int))))) (PE.o pf_int))) (ss_one (s_if (pt_cmp' of_ge (PE.o (pf_v 3)) (PE.o (pf_bin of_pow (PE.o pf_int) (PE.o pf_int))) (nomark _)) (ss_one (s_setL (pr_loc (pf_v 0)) pf_int (pf_v 3))) ss_nil))))) ss_nil) (ss_cons (s_if (pt_cmp' of_gt (PE.o (pf_ix (hu_of hr) (PE.o (pf_v 0)) (PE.o pf_int))) (PE.o pf_int) (nomark _)) (ss_cons (s_set 4 nd (pf_bin of_mod (PE.o (pf_ty1 cf_int T.b_int bb_int (PE.o (pf_ix (hu_of hr) (PE.o (pf_v 0)) (PE.o pf_int))))) (PE.o (pf_v 1)))) (ss_cons (s_setL (pr_loc (pf_v 0)) pf_int (pf_bin of_div (PE.o (pf_ix (hu_of hr) (PE.o (pf_v 0)) (PE.o pf_int))) (PE.o (pf_v 1)))) (ss_one (s_ret (pf_v 4))))) ss_nil) (ss_cons (s_setL (pr_loc (pf_v 0)) pf_int (pf_bin of_add (PE.o (pf_ix (hu_of hr) (PE.o (pf_v 0)) (PE.o pf_int))) (PE.o pf_int))) (ss_cons (s_set 2 nd (pf_bin of_mod (PE.o (pf_ty1 cf_int T.b_int bb_int (PE.o (pf_bin of_mul (PE.o (pf_ty1 cf_int T.b_int bb_int (PE.o (pf_bin of_add (PE.o (pf_ix (hu_of hr) (PE.o (pf_v 0)) (PE.o pf_int))) (PE.o (pf_bin of_mul (PE.o pf_int) (PE.o (pf_ix (hu_of hr) (PE.o (pf_v 0)) (PE.o pf_int))))))))) (PE.o pf_int))))) (PE.o pf_int))) (ss_cons (s_set 2 nd (pf_bin of_mod (PE.o (pf_ty1 cf_int T.b_int bb_int (PE.o (pf_bin of_mul (PE.o (pf_v 2)) (PE.o (pf_bin of_add (PE.o (pf_bin of_div (PE.o (pf_v 2)) (PE.o pf_int))) (PE.o pf_int))))))) (PE.o pf_int))) (ss_cons (s_set 2 nd (pf_bin of_mod (PE.o (pf_ty1 cf_int T.b_int bb_int (PE.o (pf_bin of_mul (PE.o (pf_v 2)) (PE.o (pf_bin of_add (PE.o (pf_bin of_div (PE.o (pf_v 2)) (PE.o pf_int))) (PE.o pf_int))))))) (PE.o pf_int))) (ss_one (s_ret (pf_bin of_mod (PE.o (pf_ty1 cf_int T.b_int bb_int (PE.o (pf_bin of_div (PE.o (pf_v 2)) (PE.o pf_int))))) (PE.o (pf_v 1)))))))))))

theorem sc__law_game : FnScope ["_law_hand_here", "_law_hours", "_law_size"] ["_law_hand_here"] (defScope (top 66)) := ⟨rfl, rfl, rfl, by decide +kernel, rfl, by decide +kernel, by decide +kernel⟩

theorem ok__law_game (T : Tx K mg) : DefOk P w K mg base ct 2 "_law_game" 1 F__law_game :=
  def_ok T.f__law_game sc__law_game rfl rfl (by decide) fun f cdv A outer s0 H E hr =>
    have nd := sc__law_game.nd
    (ss_cons (s_asg (pf_ix (hu_of hr) (PE.o (pf_lst (paf_cons (pf_tup (paf_cons pf_int (paf_cons pf_int paf_nil))) (paf_cons (pf_tup (paf_cons pf_int (paf_cons pf_int paf_nil))) (paf_cons (pf_tup (paf_cons pf_int (paf_cons pf_int paf_nil))) (paf_cons (pf_tup (paf_cons pf_int (paf_cons pf_int paf_nil))) (paf_cons (pf_tup (paf_cons pf_int (paf_cons pf_int paf_nil))) (paf_cons (pf_tup (paf_cons pf_int (paf_cons pf_int paf_nil))) (paf_cons (pf_tup (paf_cons pf_int (paf_cons pf_int paf_nil))) (paf_cons (pf_tup (paf_cons pf_int (paf_cons pf_int paf_nil))) paf_nil)))))))))) (PE.o (pf_call0 hr ((ok__law_draw T).mono (by omega)) (paf_cons (pf_v 0) (paf_cons pf_int paf_nil))))) (pg_t rfl (pgs_c (pg_n 1 nd) (pgs_c (pg_n 2 nd) pgs_n)))) (ss_cons (s_if (pt_cmp' (of_eq hr.units) (PE.o (pf_call0 hr ((ok__law_draw T).mono (by omega)) (paf_cons (pf_v 0) (paf_cons pf_int paf_nil)))) (PE.o pf_int) (nomark _)) (ss_one (s_asg (pf_ix (hu_of hr) (PE.o (pf_lst (paf_cons (pf_tup (paf_cons pf_int (paf_cons pf_int paf_nil))) (paf_cons (pf_tup (paf_cons pf_int (paf_cons pf_int paf_nil))) (paf_cons (pf_tup (paf_cons pf_int (paf_cons pf_int paf_nil))) (paf_cons (pf_tup (paf_cons pf_int (paf_cons pf_int paf_nil))) (paf_cons (pf_tup (paf_cons pf_int (paf_cons pf_int paf_nil))) (paf_cons (pf_tup (paf_cons pf_int (paf_cons pf_int paf_nil))) paf_nil)))))))) (PE.o (pf_call0 hr ((ok__law_draw T).mono (by omega)) (paf_cons (pf_v 0) (paf_cons pf_int paf_nil))))) (pg_t rfl (pgs_c (pg_n 1 nd) (pgs_c (pg_n 2 nd) pgs_n))))) ss_nil) (ss_one (s_ret (pf_lst (paf_cons (pf_bin of_add (PE.o pf_int) (PE.o (pf_call0 hr ((ok__law_draw T).mono (by omega)) (paf_cons (pf_v 0) (paf_cons pf_int paf_nil))))) (paf_cons (pf_v 1) (paf_cons (pf_v 2) (paf_cons (pf_new n_dT) paf_nil)))))))))

theorem sc__law_least : FnScope ["_law_sizes", "_law_most", "_law_found", "_law_hour", "_law_later", "_law_begins", "_law_at", "_law_begin", "_law_key", "_law_paid"] ["_law_sizes", "_law_most"] (defScope (top 59)) := ⟨rfl, rfl, rfl, by decide +kernel, rfl, by decide +kernel, by decide +kernel⟩

theorem ok__law_least (T : Tx K mg) : DefOk P w K mg base ct 1 "_law_least" 2 F__law_least :=
  def_ok T.f__law_least sc__law_least rfl rfl (by decide) fun f cdv A outer s0 H E hr =>
    have nd := sc__law_least.nd
    (ss_cons (s_set 2 nd (pf_n (n_disp1T (hu_of hr) (pf_tup paf_nil) pf_int))) (ss_cons (s_for (passes_of rfl) rfl (pi_rng T.b_range (pf_b1 cf_len T.b_len bb_len (PE.o (pf_v 0)))) (pg_n 3 nd) (ss_cons (s_own 4 nd n_dT) (ss_cons (s_forK 2 (passes_of rfl) rfl (pg_n 5 nd) (ss_one (s_for (passes_of rfl) rfl (pi_enm T.b_enumerate (pf_sl (PE.o (pf_bin of_add (PE.o (pf_v 5)) (PE.o (pf_tup (paf_cons (pf_v 3) paf_nil))))) part_none (part_some (pf_v 1)))) (pg_t rfl (pgs_c (pg_n 6 nd) (pgs_c (pg_n 7 nd) pgs_n))) (ss_cons (s_set 8 nd (pf_bin of_add (PE.o (pf_sl (PE.o (pf_v 5)) part_none (part_some (pf_v 6)))) (PE.o (pf_tup (paf_cons (pf_v 7) paf_nil))))) (ss_cons (s_set 9 nd (pf_bin of_add (PE.o (pf_ix (hu_of hr) (PE.o (pf_v 2)) (PE.o (pf_v 5)))) (PE.o (pf_b1 (cf_sum rfl) T.b_sum bb_sum (PE.o (pf_sl (PE.o (pf_v 0)) (part_some (pf_v 7)) (part_some (pf_bin of_add (PE.o (pf_v 3)) (PE.o pf_int))))))))) (ss_one (s_if (PW.pt (pw_or' (pt_cmp' (of_notIn (hu_of hr)) (PE.o (pf_v 8)) (po_own 4) (by rfl)) (pw_or1' (pt_cmp' of_lt (PE.o (pf_v 9)) (PE.o (pf_ix (hu_of hr) (po_own 4) (PE.o (pf_v 8)))) (nomark _))))) (ss_one (s_put (hu_of hr) (pr_own 4) (pf_v 8) (pf_v 9))) ss_nil))))))) (ss_frz 4 (ss_one (s_set 2 nd (pf_v 4))))))) (ss_one (s_ret (pf_b1 (cf_min rfl) T.b_min bb_min (PE.o (pf_n (n_listVals rfl T.b_list (pf_v 2)))))))))

theorem sc__law_due : FnScope ["_law_game_here", "_law_row"] ["_law_game_here", "_law_row"] (defScope (top 62)) := ⟨rfl, rfl, rfl, by decide +kernel, rfl, by decide +kernel, by decide +kernel⟩

theorem ok__law_due (T : Tx K mg) : DefOk P w K mg base ct 2 "_law_due" 2 F__law_due :=
  def_ok T.f__law_due sc__law_due rfl rfl (by decide) fun f cdv A outer s0 H E hr =>
    have nd := sc__law_due.nd
    (ss_cons (s_if (pt_cmp' (of_notIn (hu_of hr)) (PE.o (pf_v 1)) (PE.o (pf_ix (hu_of hr) (PE.o (pf_v 0)) (PE.o pf_int))) (by rfl)) (ss_one (s_put (hu_of hr) (pr_loc (pf_ix (hu_of hr) (PE.o (pf_v 0)) (PE.o pf_int))) (pf_v 1) (pf_call0 hr ((ok__law_least T).mono (by omega)) (paf_cons (pf_v 1) (paf_cons (pf_ix (hu_of hr) (PE.o (pf_v 0)) (PE.o pf_int)) paf_nil))))) ss_nil) (ss_one (s_ret (pf_ix (hu_of hr) (PE.o (pf_ix (hu_of hr) (PE.o (pf_v 0)) (PE.o pf_int))) (PE.o (pf_v 1))))))

theorem sc__law_more : FnScope ["_law_one", "_law_other"] ["_law_one", "_law_other"] (defScope (top 60)) := ⟨rfl, rfl, rfl, by decide +kernel, rfl, by decide +kernel, by decide +kernel⟩

theorem ok__law_more (T : Tx K mg) : DefOk P w K mg base ct 1 "_law_more" 2 F__law_more :=
  def_ok T.f__law_more sc__law_more rfl rfl (by decide) fun f cdv A outer s0 H E hr =>
    have nd := sc__law_more.nd
    (ss_one (s_ret (pf_cmp of_gt (PE.o (pf_bin of_mul (PE.o (pf_ix (hu_of hr) (PE.o (pf_v 0)) (PE.o pf_int))) (PE.o (pf_ix (hu_of hr) (PE.o (pf_v 1)) (PE.o pf_int))))) (PE.o (pf_bin of_mul (PE.o (pf_ix (hu_of hr) (PE.o (pf_v 1)) (PE.o pf_int))) (PE.o (pf_ix (hu_of hr) (PE.o (pf_v 0)) (PE.o pf_int))))) (nomark _))))

theorem sc__law_answered : FnScope ["_law_game_here", "_law_row", "_law_begins", "_law_paid", "_law_found", "_law_hour", "_law_at", "_law_begin", "_law_told"] ["_law_game_here", "_law_row", "_law_begins", "_law_paid"] (defScope (top 64)) := ⟨rfl, rfl, rfl, by decide +kernel, rfl, by decide +kernel, by decide +kernel⟩

theorem ok__law_answered (T : Tx K mg) {r__law_held : Fn} (h__law_held : DefOk P w K mg base ct k "_law_held" 4 r__law_held) (hk : 2 ≤ k := by omega) : DefOk P w K mg base ct (k + 1) "_law_answered" 4 (F__law_answered r__law_held) :=
  def_ok T.f__law_answered sc__law_answered rfl rfl (by decide) fun f cdv A outer s0 H E hr =>
    have nd := sc__law_answered.nd
    (ss_cons (s_set 4 nd pf_non) (ss_cons (s_set 5 nd (pf_bin of_sub (PE.o (pf_b1 cf_len T.b_len bb_len (PE.o (pf_v 1)))) (PE.o pf_int))) (ss_cons (s_for (passes_of rfl) rfl (pi_enm T.b_enumerate (pf_sl (PE.o (pf_bin of_add (PE.o (pf_v 2)) (PE.o (pf_tup (paf_cons (pf_v 5) paf_nil))))) part_none (part_some (pf_ix (hu_of hr) (PE.o (pf_v 0)) (PE.o pf_int))))) (pg_t rfl (pgs_c (pg_n 6 nd) (pgs_c (pg_n 7 nd) pgs_n))) (ss_cons (s_set 8 nd (pf_call0 hr (h__law_held.mono (by omega)) (paf_cons (pf_v 0) (paf_cons (pf_v 1) (paf_cons (pf_bin of_add (PE.o (pf_sl (PE.o (pf_v 2)) part_none (part_some (pf_v 6)))) (PE.o (pf_tup (paf_cons (pf_v 7) paf_nil)))) (paf_cons (pf_bin of_add (PE.o (pf_v 3)) (PE.o (pf_b1 (cf_sum rfl) T.b_sum bb_sum (PE.o (pf_sl (PE.o (pf_v 1)) (part_some (pf_v 7)) part_none))))) paf_nil)))))) (ss_one (s_if (PW.pt (pw_or' (pt_isN (PE.o (pf_v 4))) (pw_or1' (pt_v (pf_call0 hr ((ok__law_more T).mono (by omega)) (paf_cons (pf_v 4) (paf_cons (pf_v 8) paf_nil))))))) (ss_one (s_set 4 nd (pf_v 8))) ss_nil)))) (ss_one (s_ret (pf_v 4))))))

theorem sc__law_held : FnScope ["_law_game_here", "_law_row", "_law_begins", "_law_paid", "_law_found", "_law_size", "_law_told"] ["_law_game_here", "_law_row", "_law_begins", "_law_paid"] (defScope (top 63)) := ⟨rfl, rfl, rfl, by decide +kernel, rfl, by decide +kernel, by decide +kernel⟩

theorem ok__law_held (T : Tx K mg) : ∀ n : Nat, DefOk P w K mg base ct (3 + 2 * n) "_law_held" 4 (F__law_held n)
  | 0 => def_no T.f__law_held
  | n + 1 => by
    have h__law_held := ok__law_held T n
    have q : ∀ k, 3 + 2 * n + 2 = k + 1 → DefOk P w K mg base ct (k + 1) "_law_held" 4 (F__law_held (n + 1)) := fun k hk => by
      exact def_ok T.f__law_held sc__law_held rfl rfl (by decide) fun f cdv A outer s0 H E hr =>
    have nd := sc__law_held.nd
    (ss_cons (s_set 4 nd (pf_tup (paf_cons (pf_v 3) (paf_cons (pf_call0 hr ((ok__law_due T).mono (by omega)) (paf_cons (pf_v 0) (paf_cons (pf_v 1) paf_nil))) paf_nil)))) (ss_cons (s_if (pt_cmp' of_lt (PE.o (pf_b1 cf_len T.b_len bb_len (PE.o (pf_v 1)))) (PE.o (pf_ix (hu_of hr) (PE.o (pf_v 0)) (PE.o pf_int))) (nomark _)) (ss_one (s_for (passes_of rfl) rfl (pi_rng2 T.b_range pf_int (pf_bin of_add (PE.o (pf_ix (hu_of hr) (PE.o (pf_v 0)) (PE.o pf_int))) (PE.o pf_int))) (pg_n 5 nd) (ss_cons (s_set 6 nd (pf_call0 hr ((ok__law_answered T h__law_held).mono (by omega)) (paf_cons (pf_v 0) (paf_cons (pf_bin of_add (PE.o (pf_v 1)) (PE.o (pf_tup (paf_cons (pf_v 5) paf_nil)))) (paf_cons (pf_v 2) (paf_cons (pf_v 3) paf_nil)))))) (ss_one (s_if (pt_v (pf_call0 hr ((ok__law_more T).mono (by omega)) (paf_cons (pf_v 6) (paf_cons (pf_v 4) paf_nil)))) (ss_one (s_set 4 nd (pf_v 6))) ss_nil))))) ss_nil) (ss_one (s_ret (pf_v 4)))))
    exact q (3 + 2 * n + 1) (by omega)

theorem sc__law_lowest : FnScope ["_law_pair", "_law_turn", "_law_one", "_law_other"] ["_law_pair"] (defScope (top 61)) := ⟨rfl, rfl, rfl, by decide +kernel, rfl, by decide +kernel, by decide +kernel⟩

theorem ok__law_lowest (T : Tx K mg) : DefOk P w K mg base ct 1 "_law_lowest" 1 F__law_lowest :=
  def_ok T.f__law_lowest sc__law_lowest rfl rfl (by decide) fun f cdv A outer s0 H E hr =>
    have nd := sc__law_lowest.nd
    (ss_cons (s_asg (pf_v 0) (pg_t rfl (pgs_c (pg_n 2 nd) (pgs_c (pg_n 3 nd) pgs_n)))) (ss_cons (s_for (passes_of rfl) rfl (pi_rng T.b_range pf_int) (pg_n 1 nd) (ss_cons (s_if (pt_cmp' (of_eq hr.units) (PE.o (pf_v 3)) (PE.o pf_int) (nomark _)) (ss_one s_break) ss_nil) (ss_one (s_par 2 3 rfl nd (paf_cons (pf_v 3) (paf_cons (pf_bin of_mod (PE.o (pf_ty1 cf_int T.b_int bb_int (PE.o (pf_v 2)))) (PE.o (pf_v 3))) paf_nil)))))) (ss_one (s_ret (pf_tup (paf_cons (pf_bin of_div (PE.o (pf_ix (hu_of hr) (PE.o (pf_v 0)) (PE.o pf_int))) (PE.o (pf_v 2))) (paf_cons (pf_bin of_div (PE.o (pf_ix (hu_of hr) (PE.o (pf_v 0)) (PE.o pf_int))) (PE.o (pf_v 2))) paf_nil)))))))

theorem sc__law_surest : FnScope ["_law_game_here", "_law_found", "_law_size", "_law_told"] ["_law_game_here"] (defScope (top 65)) := ⟨rfl, rfl, rfl, by decide +kernel, rfl, by decide +kernel, by decide +kernel⟩

theorem ok__law_surest (T : Tx K mg) : DefOk P w K mg base ct 21 "_law_surest" 1 F__law_surest :=
  def_ok T.f__law_surest sc__law_surest rfl rfl (by decide) fun f cdv A outer s0 H E hr =>
    have nd := sc__law_surest.nd
    (ss_cons (s_set 1 nd (pf_tup (paf_cons pf_int (paf_cons pf_int paf_nil)))) (ss_cons (s_for (passes_of rfl) rfl (pi_rng2 T.b_range pf_int (pf_bin of_add (PE.o (pf_ix (hu_of hr) (PE.o (pf_v 0)) (PE.o pf_int))) (PE.o pf_int))) (pg_n 2 nd) (ss_cons (s_set 3 nd (pf_call0 hr ((ok__law_answered T (ok__law_held T 8)).mono (by omega)) (paf_cons (pf_v 0) (paf_cons (pf_tup (paf_cons (pf_v 2) paf_nil)) (paf_cons (pf_tup paf_nil) (paf_cons pf_int paf_nil)))))) (ss_one (s_if (pt_v (pf_call0 hr ((ok__law_more T).mono (by omega)) (paf_cons (pf_v 3) (paf_cons (pf_v 1) paf_nil)))) (ss_one (s_set 1 nd (pf_v 3))) ss_nil)))) (ss_one (s_ret (pf_call0 hr ((ok__law_lowest T).mono (by omega)) (paf_cons (pf_v 1) paf_nil))))))

theorem sc_is_integer : FnScope ["thing"] ["thing"] (defScope (top 8)) := ⟨rfl, rfl, rfl, by decide +kernel, rfl, by decide +kernel, by decide +kernel⟩

theorem ok_is_integer (T : Tx K mg) : DefOk P w K mg base ct 1 "is_integer" 1 F_is_integer :=
  def_ok T.f_is_integer sc_is_integer rfl rfl (by decide) fun f cdv A outer s0 H E hr =>
    have nd := sc_is_integer.nd
    (ss_one (s_ret (pf_and (pf_isi (n := "int") (by decide) T.b_isinstance T.b_int bb_int (PE.o (pf_v 0))) (pf_one (pf_not (pf_isi (n := "bool") (by decide) T.b_isinstance T.b_bool bb_bool (PE.o (pf_v 0))))))))

theorem sc_is_within : FnScope ["thing", "least", "most"] ["thing", "least", "most"] (defScope (top 9)) := ⟨rfl, rfl, rfl, by decide +kernel, rfl, by decide +kernel, by decide +kernel⟩

theorem ok_is_within (T : Tx K mg) : DefOk P w K mg base ct 2 "is_within" 3 F_is_within :=
  def_ok T.f_is_within sc_is_within rfl rfl (by decide) fun f cdv A outer s0 H E hr =>
    have nd := sc_is_within.nd
    (ss_one (s_ret (pf_and (pf_call0 hr ((ok_is_integer T).mono (by omega)) (paf_cons (pf_v 0) paf_nil)) (pf_one (pf_ch of_le of_le (PE.o (pf_v 1)) (PE.o (pf_v 0)) (PE.o (pf_v 2)))))))

theorem sc_check_number : FnScope ["thing", "least", "most"] ["thing", "least", "most"] (defScope (top 17)) := ⟨rfl, rfl, rfl, by decide +kernel, rfl, by decide +kernel, by decide +kernel⟩

theorem ok_check_number (T : Tx K mg) : DefOk P w K mg base ct 3 "check_number" 3 F_check_number :=
  def_ok T.f_check_number sc_check_number rfl rfl (by decide) fun f cdv A outer s0 H E hr =>
    have nd := sc_check_number.nd
    (ss_one (s_if (pt_not' (pt_v (pf_call0 hr ((ok_is_within T).mono (by omega)) (paf_cons (pf_v 0) (paf_cons (pf_v 1) (paf_cons (pf_v 2) paf_nil)))))) (ss_one s_never) ss_nil))

theorem sc_check_game : FnScope ["most", "hours", "size"] ["most", "hours", "size"] (defScope (top 44)) := ⟨rfl, rfl, rfl, by decide +kernel, rfl, by decide +kernel, by decide +kernel⟩

theorem ok_check_game (T : Tx K mg) : DefOk P w K mg base ct 4 "check_game" 3 F_check_game :=
  def_ok T.f_check_game sc_check_game rfl rfl (by decide) fun f cdv A outer s0 H E hr =>
    have nd := sc_check_game.nd
    (ss_cons (s_expr (pf_call0 hr ((ok_check_number T).mono (by omega)) (paf_cons (pf_v 0) (paf_cons pf_int (paf_cons (pf_gl T.n_MOST_RUNS) paf_nil))))) (ss_cons (s_expr (pf_call0 hr ((ok_check_number T).mono (by omega)) (paf_cons (pf_v 1) (paf_cons pf_int (paf_cons (pf_gl T.n_MOST_HOURS_games) paf_nil))))) (ss_one (s_expr (pf_call0 hr ((ok_check_number T).mono (by omega)) (paf_cons (pf_v 2) (paf_cons pf_int (paf_cons (pf_gl T.n_MOST_SIZE) paf_nil))))))))

theorem sc_is_pair : FnScope ["thing"] ["thing"] (defScope (top 10)) := ⟨rfl, rfl, rfl, by decide +kernel, rfl, by decide +kernel, by decide +kernel⟩

theorem ok_is_pair (T : Tx K mg) : DefOk P w K mg base ct 1 "is_pair" 1 F_is_pair :=
  def_ok T.f_is_pair sc_is_pair rfl rfl (by decide) fun f cdv A outer s0 H E hr =>
    have nd := sc_is_pair.nd
    (ss_one (s_ret (pf_and (pf_isi (n := "tuple") (by decide) T.b_isinstance T.b_tuple bb_tuple (PE.o (pf_v 0))) (pf_one (pf_cmp (of_eq hr.units) (PE.o (pf_b1 cf_len T.b_len bb_len (PE.o (pf_v 0)))) (PE.o pf_int) (nomark _))))))

theorem sc_common_divisor : FnScope ["one", "other"] ["one", "other"] (defScope (top 13)) := ⟨rfl, rfl, rfl, by decide +kernel, rfl, by decide +kernel, by decide +kernel⟩

theorem ok_common_divisor (T : Tx K mg) : DefOk P w K mg base ct 1 "common_divisor" 2 F_common_divisor :=
  def_ok T.f_common_divisor sc_common_divisor rfl rfl (by decide) fun f cdv A outer s0 H E hr =>
    have nd := sc_common_divisor.nd
    (ss_cons (s_while (passes_of rfl) (pt_cmp' (of_ne hr.units) (PE.o (pf_v 1)) (PE.o pf_int) (nomark _)) (ss_one (s_par 0 1 rfl nd (paf_cons (pf_v 1) (paf_cons (pf_bin of_mod (PE.o (pf_v 0)) (PE.o (pf_v 1))) paf_nil)))) 400) (ss_one (s_ret (pf_v 0))))

theorem sc_is_fraction : FnScope ["thing"] ["thing"] (defScope (top 15)) := ⟨rfl, rfl, rfl, by decide +kernel, rfl, by decide +kernel, by decide +kernel⟩

theorem ok_is_fraction (T : Tx K mg) : DefOk P w K mg base ct 2 "is_fraction" 1 F_is_fraction :=
  def_ok T.f_is_fraction sc_is_fraction rfl rfl (by decide) fun f cdv A outer s0 H E hr =>
    have nd := sc_is_fraction.nd
    (ss_cons (s_if (PW.pt (pw_or' (pt_not' (pt_v (pf_call0 hr ((ok_is_pair T).mono (by omega)) (paf_cons (pf_v 0) paf_nil)))) (pw_or' (pt_not' (pt_v (pf_call0 hr ((ok_is_integer T).mono (by omega)) (paf_cons (pf_ix (hu_of hr) (PE.o (pf_v 0)) (PE.o pf_int)) paf_nil)))) (pw_or1' (pt_not' (pt_v (pf_call0 hr ((ok_is_integer T).mono (by omega)) (paf_cons (pf_ix (hu_of hr) (PE.o (pf_v 0)) (PE.o pf_int)) paf_nil)))))))) (ss_one (s_ret pf_bl)) ss_nil) (ss_one (s_ret (pf_and (pf_cmp of_ge (PE.o (pf_ix (hu_of hr) (PE.o (pf_v 0)) (PE.o pf_int))) (PE.o pf_int) (nomark _)) (pf_and (pf_cmp of_gt (PE.o (pf_ix (hu_of hr) (PE.o (pf_v 0)) (PE.o pf_int))) (PE.o pf_int) (nomark _)) (pf_one (pf_cmp (of_eq hr.units) (PE.o (pf_call0 hr ((ok_common_divisor T).mono (by omega)) (paf_cons (pf_ix (hu_of hr) (PE.o (pf_v 0)) (PE.o pf_int)) (paf_cons (pf_ix (hu_of hr) (PE.o (pf_v 0)) (PE.o pf_int)) paf_nil)))) (PE.o pf_int) (nomark _))))))))

theorem sc_check_many : FnScope ["number", "most"] ["number", "most"] (defScope (top 18)) := ⟨rfl, rfl, rfl, by decide +kernel, rfl, by decide +kernel, by decide +kernel⟩

theorem ok_check_many (T : Tx K mg) : DefOk P w K mg base ct 1 "check_many" 2 F_check_many :=
  def_ok T.f_check_many sc_check_many rfl rfl (by decide) fun f cdv A outer s0 H E hr =>
    have nd := sc_check_many.nd
    (ss_one (s_if (pt_cmp' of_gt (PE.o (pf_v 0)) (PE.o (pf_v 1)) (nomark _)) (ss_one s_never) ss_nil))

theorem sc_check_small : FnScope ["hours", "size", "many", "hour"] ["hours", "size"] (defScope (top 45)) := ⟨rfl, rfl, rfl, by decide +kernel, rfl, by decide +kernel, by decide +kernel⟩

theorem ok_check_small (T : Tx K mg) : DefOk P w K mg base ct 2 "check_small" 2 F_check_small :=
  def_ok T.f_check_small sc_check_small rfl rfl (by decide) fun f cdv A outer s0 H E hr =>
    have nd := sc_check_small.nd
    (ss_cons (s_set 2 nd pf_int) (ss_cons (s_for (passes_of rfl) rfl (pi_rng T.b_range (pf_v 0)) (pg_n 3 nd) (ss_one (s_aug 2 ip_jMul nd (pf_v 1)))) (ss_one (s_expr (pf_call0 hr ((ok_check_many T).mono (by omega)) (paf_cons (pf_v 2) (paf_cons (pf_gl T.n_MOST_ROWS) paf_nil)))))))

theorem sc_check_ratio_game : FnScope ["most", "hours", "size", "ratio"] ["most", "hours", "size", "ratio"] (defScope (top 46)) := ⟨rfl, rfl, rfl, by decide +kernel, rfl, by decide +kernel, by decide +kernel⟩

theorem ok_check_ratio_game (T : Tx K mg) : DefOk P w K mg base ct 5 "check_ratio_game" 4 F_check_ratio_game :=
  def_ok T.f_check_ratio_game sc_check_ratio_game rfl rfl (by decide) fun f cdv A outer s0 H E hr =>
    have nd := sc_check_ratio_game.nd
    (ss_cons (s_expr (pf_call0 hr ((ok_check_game T).mono (by omega)) (paf_cons (pf_v 0) (paf_cons (pf_v 1) (paf_cons (pf_v 2) paf_nil))))) (ss_cons (s_if (pt_not' (pt_v (pf_call0 hr ((ok_is_fraction T).mono (by omega)) (paf_cons (pf_v 3) paf_nil)))) (ss_one s_never) ss_nil) (ss_one (s_expr (pf_call0 hr ((ok_check_small T).mono (by omega)) (paf_cons (pf_v 1) (paf_cons (pf_v 2) paf_nil)))))))

theorem sc_Game_is_above : FnScope ["self", "spot", "ratio"] ["self", "spot", "ratio"] (defScope (inClass (top 48) 3)) := ⟨rfl, rfl, rfl, by decide +kernel, rfl, by decide +kernel, by decide +kernel⟩

theorem ok_Game_is_above (T : Tx K mg) : MetOk P w K mg base ct 1 3 "is_above" 3 F_Game_is_above :=
  met_ok T.m_Game_is_above sc_Game_is_above rfl rfl (by decide) fun f cdv A outer s0 H E hr =>
    have nd := sc_Game_is_above.nd
    (ss_one (s_ret (pf_and (pf_cmp of_gt (PE.o (pf_b1 cf_len T.b_len bb_len (PE.o (pf_fld 2 0 T.c2 (PE.o (pf_v 1)))))) (PE.o pf_int) (nomark _)) (pf_one (pf_cmp of_gt (PE.o (pf_bin of_mul (PE.o (pf_fld 2 3 T.c2 (PE.o (pf_v 1)))) (PE.o (pf_ix (hu_of hr) (PE.o (pf_v 2)) (PE.o pf_int))))) (PE.o (pf_bin of_mul (PE.o (pf_ix (hu_of hr) (PE.o (pf_v 2)) (PE.o pf_int))) (PE.o (pf_ix (hu_of hr) (PE.o (pf_fld 3 3 T.c3 (PE.o (pf_v 0)))) (PE.o (pf_fld 2 0 T.c2 (PE.o (pf_v 1)))))))) (nomark _))))))

theorem sc_Game_answers_at : FnScope ["self", "spot"] ["self", "spot"] (defScope (inClass (top 48) 1)) := ⟨rfl, rfl, rfl, by decide +kernel, rfl, by decide +kernel, by decide +kernel⟩

theorem ok_Game_answers_at (T : Tx K mg) : MetOk P w K mg base ct 1 3 "answers_at" 2 F_Game_answers_at :=
  met_ok T.m_Game_answers_at sc_Game_answers_at rfl rfl (by decide) fun f cdv A outer s0 H E hr =>
    have nd := sc_Game_answers_at.nd
    (ss_one (s_ret (pf_n (n_lrg rfl T.b_list T.b_range (pf_bin of_add (PE.o (pf_b2 (cf_min2 rfl) T.b_min bb_min (PE.o (pf_b1 cf_len T.b_len bb_len (PE.o (pf_fld 2 2 T.c2 (PE.o (pf_v 1)))))) (PE.o (pf_bin of_sub (PE.o (pf_fld 3 0 T.c3 (PE.o (pf_v 0)))) (PE.o pf_int))))) (PE.o pf_int))))))

theorem sc_is_less : FnScope ["one", "other"] ["one", "other"] (defScope (top 16)) := ⟨rfl, rfl, rfl, by decide +kernel, rfl, by decide +kernel, by decide +kernel⟩

theorem ok_is_less (T : Tx K mg) : DefOk P w K mg base ct 1 "is_less" 2 F_is_less :=
  def_ok T.f_is_less sc_is_less rfl rfl (by decide) fun f cdv A outer s0 H E hr =>
    have nd := sc_is_less.nd
    (ss_one (s_ret (pf_cmp of_lt (PE.o (pf_bin of_mul (PE.o (pf_ix (hu_of hr) (PE.o (pf_v 0)) (PE.o pf_int))) (PE.o (pf_ix (hu_of hr) (PE.o (pf_v 1)) (PE.o pf_int))))) (PE.o (pf_bin of_mul (PE.o (pf_ix (hu_of hr) (PE.o (pf_v 1)) (PE.o pf_int))) (PE.o (pf_ix (hu_of hr) (PE.o (pf_v 0)) (PE.o pf_int))))) (nomark _))))

theorem sc_lowest : FnScope ["top", "bottom", "common"] ["top", "bottom"] (defScope (top 14)) := ⟨rfl, rfl, rfl, by decide +kernel, rfl, by decide +kernel, by decide +kernel⟩

theorem ok_lowest (T : Tx K mg) : DefOk P w K mg base ct 2 "lowest" 2 F_lowest :=
  def_ok T.f_lowest sc_lowest rfl rfl (by decide) fun f cdv A outer s0 H E hr =>
    have nd := sc_lowest.nd
    (ss_cons (s_set 2 nd (pf_call0 hr ((ok_common_divisor T).mono (by omega)) (paf_cons (pf_v 0) (paf_cons (pf_v 1) paf_nil)))) (ss_one (s_ret (pf_tup (paf_cons (pf_bin of_div (PE.o (pf_v 0)) (PE.o (pf_v 2))) (paf_cons (pf_bin of_div (PE.o (pf_v 1)) (PE.o (pf_v 2))) paf_nil))))))

theorem sc_behind_answer : FnScope ["begins", "hour", "answer"] ["begins", "hour", "answer"] (defScope (top 36)) := ⟨rfl, rfl, rfl, by decide +kernel, rfl, by decide +kernel, by decide +kernel⟩

theorem ok_behind_answer (T : Tx K mg) : DefOk P w K mg base ct 1 "behind_answer" 3 F_behind_answer :=
  def_ok T.f_behind_answer sc_behind_answer rfl rfl (by decide) fun f cdv A outer s0 H E hr =>
    have nd := sc_behind_answer.nd
    (ss_one (s_ret (pf_bin of_add (PE.o (pf_sl (PE.o (pf_v 0)) part_none (part_some (pf_v 2)))) (PE.o (pf_tup (paf_cons (pf_if (pt_cmp' of_lt (PE.o (pf_v 2)) (PE.o (pf_b1 cf_len T.b_len bb_len (PE.o (pf_v 0)))) (nomark _)) (pf_ix (hu_of hr) (PE.o (pf_v 0)) (PE.o (pf_v 2))) (pf_v 1)) paf_nil))))))

theorem sc_Spot___init__ : FnScope ["self", "row", "answers", "begins", "cost"] ["self", "row", "answers", "begins", "cost"] (defScope (inClass (top 47) 0)) := ⟨rfl, rfl, rfl, by decide +kernel, rfl, by decide +kernel, by decide +kernel⟩

theorem ok_Spot___init__ (T : Tx K mg) : IniOk P w K mg base ct 1 2 "Spot" 5 F_Spot___init__ :=
  ini_ok T.i_Spot sc_Spot___init__ rfl rfl (by decide) fun f cdv A outer s0 H E hr =>
    have nd := sc_Spot___init__.nd
    (ss_cons (s_fld 2 0 T.c2 (pr_loc (pf_v 0)) (pf_v 1)) (ss_cons (s_fld 2 1 T.c2 (pr_loc (pf_v 0)) (pf_v 2)) (ss_cons (s_fld 2 2 T.c2 (pr_loc (pf_v 0)) (pf_v 3)) (ss_one (s_fld 2 3 T.c2 (pr_loc (pf_v 0)) (pf_v 4))))))

theorem sc_Spot_behind : FnScope ["self", "size", "answer", "row", "begins"] ["self", "size", "answer"] (defScope (inClass (top 47) 1)) := ⟨rfl, rfl, rfl, by decide +kernel, rfl, by decide +kernel, by decide +kernel⟩

theorem ok_Spot_behind (T : Tx K mg) : MetOk P w K mg base ct 3 2 "behind" 3 F_Spot_behind :=
  met_ok T.m_Spot_behind sc_Spot_behind rfl rfl (by decide) fun f cdv A outer s0 H E hr =>
    have nd := sc_Spot_behind.nd
    (ss_cons (s_set 3 nd (pf_bin of_add (PE.o (pf_fld 2 0 T.c2 (PE.o (pf_v 0)))) (PE.o (pf_tup (paf_cons (pf_v 1) paf_nil))))) (ss_cons (s_set 4 nd (pf_call0 hr ((ok_behind_answer T).mono (by omega)) (paf_cons (pf_fld 2 2 T.c2 (PE.o (pf_v 0))) (paf_cons (pf_b1 cf_len T.b_len bb_len (PE.o (pf_fld 2 0 T.c2 (PE.o (pf_v 0))))) (paf_cons (pf_v 2) paf_nil))))) (ss_one (s_ret (pf_n (n_mk hr ((ok_Spot___init__ T).mono (by omega)) (paf_cons (pf_v 3) (paf_cons (pf_bin of_add (PE.o (pf_fld 2 1 T.c2 (PE.o (pf_v 0)))) (PE.o (pf_tup (paf_cons (pf_v 2) paf_nil)))) (paf_cons (pf_v 4) (paf_cons (pf_bin of_add (PE.o (pf_fld 2 3 T.c2 (PE.o (pf_v 0)))) (PE.o (pf_b1 (cf_sum rfl) T.b_sum bb_sum (PE.o (pf_sl (PE.o (pf_v 3)) (part_some (pf_ix (hu_of hr) (PE.o (pf_v 4)) (PE.o (pf_neg (PE.o pf_int))))) part_none))))) paf_nil))))))))))

theorem sc_Game_worth : FnScope ["self", "spot", "found", "size", "best", "answer", "told"] ["self", "spot"] (defScope (inClass (top 48) 2)) := ⟨rfl, rfl, rfl, by decide +kernel, rfl, by decide +kernel, by decide +kernel⟩

theorem ok_Game_worth (T : Tx K mg) : ∀ n : Nat, MetOk P w K mg base ct (4 + 1 * n) 3 "worth" 2 (F_Game_worth n)
  | 0 => met_no T.m_Game_worth
  | n + 1 => by
    have h_Game_worth := ok_Game_worth T n
    have q : ∀ k, 4 + 1 * n + 1 = k + 1 → MetOk P w K mg base ct (k + 1) 3 "worth" 2 (F_Game_worth (n + 1)) := fun k hk => by
      exact met_ok T.m_Game_worth sc_Game_worth rfl rfl (by decide) fun f cdv A outer s0 H E hr =>
    have nd := sc_Game_worth.nd
    (ss_cons (s_set 2 nd (pf_if (pt_cmp' of_gt (PE.o (pf_b1 cf_len T.b_len bb_len (PE.o (pf_fld 2 0 T.c2 (PE.o (pf_v 1)))))) (PE.o pf_int) (nomark _)) (pf_call0 hr ((ok_lowest T).mono (by omega)) (paf_cons (pf_fld 2 3 T.c2 (PE.o (pf_v 1))) (paf_cons (pf_ix (hu_of hr) (PE.o (pf_fld 3 3 T.c3 (PE.o (pf_v 0)))) (PE.o (pf_fld 2 0 T.c2 (PE.o (pf_v 1))))) paf_nil))) (pf_tup (paf_cons pf_int (paf_cons pf_int paf_nil))))) (ss_cons (s_if (pt_cmp' of_lt (PE.o (pf_b1 cf_len T.b_len bb_len (PE.o (pf_fld 2 0 T.c2 (PE.o (pf_v 1)))))) (PE.o (pf_fld 3 1 T.c3 (PE.o (pf_v 0)))) (nomark _)) (ss_one (s_for (passes_of rfl) rfl (pi_seq (pf_fld 3 2 T.c3 (PE.o (pf_v 0)))) (pg_n 3 nd) (ss_cons (s_set 4 nd pf_non) (ss_cons (s_for (passes_of rfl) rfl (pi_seq (pf_meth hr ((ok_Game_answers_at T).mono (by omega)) (pf_v 0) (paf_cons (pf_v 1) paf_nil))) (pg_n 5 nd) (ss_cons (s_set 6 nd (pf_meth hr (h_Game_worth.mono (by omega)) (pf_v 0) (paf_cons (pf_meth hr ((ok_Spot_behind T).mono (by omega)) (pf_v 1) (paf_cons (pf_v 3) (paf_cons (pf_v 5) paf_nil))) paf_nil))) (ss_one (s_if (PW.pt (pw_or' (pt_isN (PE.o (pf_v 4))) (pw_or1' (pt_v (pf_call0 hr ((ok_is_less T).mono (by omega)) (paf_cons (pf_v 6) (paf_cons (pf_v 4) paf_nil))))))) (ss_one (s_set 4 nd (pf_v 6))) ss_nil)))) (ss_one (s_set 2 nd (pf_if (pt_v (pf_call0 hr ((ok_is_less T).mono (by omega)) (paf_cons (pf_v 2) (paf_cons (pf_v 4) paf_nil)))) (pf_v 4) (pf_v 2)))))))) ss_nil) (ss_one (s_ret (pf_v 2)))))
    exact q (4 + 1 * n + 0) (by omega)

theorem sc_Game_holds : FnScope ["self", "spot", "ratio"] ["self", "spot", "ratio"] (defScope (inClass (top 48) 6)) := ⟨rfl, rfl, rfl, by decide +kernel, rfl, by decide +kernel, by decide +kernel⟩

theorem ok_Game_holds (T : Tx K mg) : MetOk P w K mg base ct 13 3 "holds" 3 F_Game_holds :=
  met_ok T.m_Game_holds sc_Game_holds rfl rfl (by decide) fun f cdv A outer s0 H E hr =>
    have nd := sc_Game_holds.nd
    (ss_one (s_ret (pf_not (pf_call0 hr ((ok_is_less T).mono (by omega)) (paf_cons (pf_v 2) (paf_cons (pf_meth hr ((ok_Game_worth T 8).mono (by omega)) (pf_v 0) (paf_cons (pf_v 1) paf_nil)) paf_nil))))))

theorem sc_Game_good_answer : FnScope ["self", "spot", "size", "ratio", "answer"] ["self", "spot", "size", "ratio"] (defScope (inClass (top 48) 5)) := ⟨rfl, rfl, rfl, by decide +kernel, rfl, by decide +kernel, by decide +kernel⟩

theorem ok_Game_good_answer (T : Tx K mg) : MetOk P w K mg base ct 14 3 "good_answer" 4 F_Game_good_answer :=
  met_ok T.m_Game_good_answer sc_Game_good_answer rfl rfl (by decide) fun f cdv A outer s0 H E hr =>
    have nd := sc_Game_good_answer.nd
    (ss_cons (s_for (passes_of rfl) rfl (pi_seq (pf_meth hr ((ok_Game_answers_at T).mono (by omega)) (pf_v 0) (paf_cons (pf_v 1) paf_nil))) (pg_n 4 nd) (ss_one (s_if (pt_v (pf_meth hr ((ok_Game_holds T).mono (by omega)) (pf_v 0) (paf_cons (pf_meth hr ((ok_Spot_behind T).mono (by omega)) (pf_v 1) (paf_cons (pf_v 2) (paf_cons (pf_v 4) paf_nil))) (paf_cons (pf_v 3) paf_nil)))) (ss_one (s_ret (pf_v 4))) ss_nil))) (ss_one (s_ret pf_non)))

theorem sc_Game_keeper_holds : FnScope ["self", "spot", "ratio", "book", "size", "answer"] ["self", "spot", "ratio", "book"] (defScope (inClass (top 48) 4)) := ⟨rfl, rfl, rfl, by decide +kernel, rfl, by decide +kernel, by decide +kernel⟩

theorem ok_Game_keeper_holds (T : Tx K mg) : ∀ n : Nat, MetOk P w K mg base ct (15 + 1 * n) 3 "keeper_holds" 4 (F_Game_keeper_holds n)
  | 0 => met_no T.m_Game_keeper_holds
  | n + 1 => by
    have h_Game_keeper_holds := ok_Game_keeper_holds T n
    have q : ∀ k, 15 + 1 * n + 1 = k + 1 → MetOk P w K mg base ct (k + 1) 3 "keeper_holds" 4 (F_Game_keeper_holds (n + 1)) := fun k hk => by
      exact met_ok T.m_Game_keeper_holds sc_Game_keeper_holds rfl rfl (by decide) fun f cdv A outer s0 H E hr =>
    have nd := sc_Game_keeper_holds.nd
    (ss_cons (s_if (pt_v (pf_meth hr ((ok_Game_is_above T).mono (by omega)) (pf_v 0) (paf_cons (pf_v 1) (paf_cons (pf_v 2) paf_nil)))) (ss_one (s_ret pf_bl)) ss_nil) (ss_cons (s_if (pt_cmp' (of_eq hr.units) (PE.o (pf_b1 cf_len T.b_len bb_len (PE.o (pf_fld 2 0 T.c2 (PE.o (pf_v 1)))))) (PE.o (pf_fld 3 1 T.c3 (PE.o (pf_v 0)))) (nomark _)) (ss_one (s_ret pf_bl)) ss_nil) (ss_cons (s_for (passes_of rfl) rfl (pi_seq (pf_fld 3 2 T.c3 (PE.o (pf_v 0)))) (pg_n 4 nd) (ss_cons (s_set 5 nd (pf_meth hr ((ok_Game_good_answer T).mono (by omega)) (pf_v 0) (paf_cons (pf_v 1) (paf_cons (pf_v 4) (paf_cons (pf_v 2) paf_nil))))) (ss_cons (s_if (pt_isN (PE.o (pf_v 5))) (ss_one (s_ret pf_bl)) ss_nil) (ss_cons (s_put (hu_of hr) (pr_loc (pf_v 3)) (pf_bin of_add (PE.o (pf_fld 2 0 T.c2 (PE.o (pf_v 1)))) (PE.o (pf_tup (paf_cons (pf_v 4) paf_nil)))) (pf_v 5)) (ss_one (s_expr (pf_meth hr (h_Game_keeper_holds.mono (by omega)) (pf_v 0) (paf_cons (pf_meth hr ((ok_Spot_behind T).mono (by omega)) (pf_v 1) (paf_cons (pf_v 4) (paf_cons (pf_v 5) paf_nil))) (paf_cons (pf_v 2) (paf_cons (pf_v 3) paf_nil)))))))))) (ss_one (s_ret pf_bl)))))
    exact q (15 + 1 * n + 0) (by omega)

theorem sc_rows_of : FnScope ["hours", "size", "found", "layer", "hour", "row", "number"] ["hours", "size"] (defScope (top 37)) := ⟨rfl, rfl, rfl, by decide +kernel, rfl, by decide +kernel, by decide +kernel⟩

theorem ok_rows_of (T : Tx K mg) : DefOk P w K mg base ct 1 "rows_of" 2 F_rows_of :=
  def_ok T.f_rows_of sc_rows_of rfl rfl (by decide) fun f cdv A outer s0 H E hr =>
    have nd := sc_rows_of.nd
    (ss_cons (s_own 2 nd (n_lst paf_nil)) (ss_cons (s_set 3 nd (pf_lst (paf_cons (pf_tup paf_nil) paf_nil))) (ss_cons (s_for (passes_of rfl) rfl (pi_rng T.b_range (pf_v 0)) (pg_n 4 nd) (ss_cons (s_setLc2 3 rfl nd (sw_true rfl rfl rfl (by decide +kernel)) (own := [("row", 5), ("number", 6)]) (gt := (gName 5)) (gt1 := (gName 6)) (vs1 := [6]) (ownK_n 5) (pi_seq (pf_v 3)) (blkOk_by rfl) (fun _ _ _ _ _ => (pg_n 5 nd)) (fun _ _ _ _ _ => ptsf_nil) (fun _ _ _ _ _ => (pi_rng2 T.b_range pf_int (pf_bin of_add (PE.o (pf_v 1)) (PE.o pf_int)))) (fun _ _ _ _ _ => (pg_n 6 nd)) (fun _ _ _ _ _ => ptsf_nil) (fun _ _ _ _ _ => (pf_bin of_add (PE.o (pf_v 5)) (PE.o (pf_tup (paf_cons (pf_v 6) paf_nil)))))) (ss_one (s_ext (pr_own 2) (pf_v 3))))) (ss_frz 2 (ss_one (s_ret (pf_v 2)))))))

theorem sc_Solver_capped : FnScope ["self", "most", "first", "last"] ["self", "most", "first", "last"] (defScope (inClass (top 30) 1)) := ⟨rfl, rfl, rfl, by decide +kernel, rfl, by decide +kernel, by decide +kernel⟩

theorem ok_Solver_capped (T : Tx K mg) : MetOk P w K mg base ct 1 1 "capped" 4 F_Solver_capped :=
  met_ok T.m_Solver_capped sc_Solver_capped rfl rfl (by decide) fun f cdv A outer s0 H E hr =>
    have nd := sc_Solver_capped.nd
    (ss_one (s_ret (pf_tup (paf_cons (pf_b2 (cf_min2 rfl) T.b_min bb_min (PE.o (pf_v 1)) (PE.o (pf_bin of_add (PE.o (pf_bin of_sub (PE.o (pf_v 3)) (PE.o (pf_v 2)))) (PE.o pf_int)))) (paf_cons (pf_v 2) (paf_cons (pf_v 3) paf_nil))))))

theorem sc_may_all : FnScope ["hour", "begin"] ["hour", "begin"] (defScope (top 29)) := ⟨rfl, rfl, rfl, by decide +kernel, rfl, by decide +kernel, by decide +kernel⟩

theorem ok_may_all (T : Tx K mg) : DefOk P w K mg base ct 1 "may_all" 2 F_may_all :=
  def_ok T.f_may_all sc_may_all rfl rfl (by decide) fun f cdv A outer s0 H E hr =>
    have nd := sc_may_all.nd
    (ss_one (s_ret pf_bl))

theorem sc_write_of : FnScope ["task", "first", "last"] ["task", "first", "last"] (defScope (top 25)) := ⟨rfl, rfl, rfl, by decide +kernel, rfl, by decide +kernel, by decide +kernel⟩

theorem ok_write_of (T : Tx K mg) : DefOk P w K mg base ct 1 "write_of" 3 F_write_of :=
  def_ok T.f_write_of sc_write_of rfl rfl (by decide) fun f cdv A outer s0 H E hr =>
    have nd := sc_write_of.nd
    (ss_one (s_ret (pf_ix (hu_of hr) (PE.o (pf_ix (hu_of hr) (PE.o (pf_fld 0 0 T.c0 (PE.o (pf_v 0)))) (PE.o (pf_v 1)))) (PE.o (pf_bin of_sub (PE.o (pf_v 2)) (PE.o (pf_v 1)))))))

theorem sc_Solver_ahead_cost : FnScope ["self", "most", "first", "top", "ahead"] ["self", "most", "first", "top"] (defScope (inClass (top 30) 2)) := ⟨rfl, rfl, rfl, by decide +kernel, rfl, by decide +kernel, by decide +kernel⟩

theorem ok_Solver_ahead_cost (T : Tx K mg) {r_Solver_own_cost : Fn} (h_Solver_own_cost : MetOk P w K mg base ct k 1 "own_cost" 4 r_Solver_own_cost) (hk : 2 ≤ k := by omega) : MetOk P w K mg base ct (k + 1) 1 "ahead_cost" 4 (F_Solver_ahead_cost r_Solver_own_cost) :=
  met_ok T.m_Solver_ahead_cost sc_Solver_ahead_cost rfl rfl (by decide) fun f cdv A outer s0 H E hr =>
    have nd := sc_Solver_ahead_cost.nd
    (ss_cons (s_if (pt_not' (pt_v (pf_methV 1 1 T.c1 hr (tab_cons ((ok_may_all T).mono (by omega)) tab_nil) (pf_v 0) (paf_cons (pf_v 3) (paf_cons (pf_v 2) paf_nil))))) (ss_one (s_ret pf_non)) ss_nil) (ss_cons (s_if (pt_cmp' (of_eq hr.units) (PE.o (pf_v 3)) (PE.o (pf_v 2)) (nomark _)) (ss_one (s_ret (pf_call0 hr ((ok_write_of T).mono (by omega)) (paf_cons (pf_fld 1 0 T.c1 (PE.o (pf_v 0))) (paf_cons (pf_v 2) (paf_cons (pf_v 2) paf_nil)))))) ss_nil) (ss_cons (s_set 4 nd (pf_meth hr (h_Solver_own_cost.mono (by omega)) (pf_v 0) (paf_cons (pf_v 1) (paf_cons (pf_v 2) (paf_cons (pf_bin of_sub (PE.o (pf_v 3)) (PE.o pf_int)) paf_nil))))) (ss_one (s_ret (pf_if (pt_isN (PE.o (pf_v 4))) pf_non (pf_bin of_add (PE.o (pf_v 4)) (PE.o (pf_call0 hr ((ok_write_of T).mono (by omega)) (paf_cons (pf_fld 1 0 T.c1 (PE.o (pf_v 0))) (paf_cons (pf_v 2) (paf_cons (pf_v 3) paf_nil))))))))))))

theorem sc_look_sum : FnScope ["task", "begin", "first", "last"] ["task", "begin", "first", "last"] (defScope (top 26)) := ⟨rfl, rfl, rfl, by decide +kernel, rfl, by decide +kernel, by decide +kernel⟩

theorem ok_look_sum (T : Tx K mg) : DefOk P w K mg base ct 1 "look_sum" 4 F_look_sum :=
  def_ok T.f_look_sum sc_look_sum rfl rfl (by decide) fun f cdv A outer s0 H E hr =>
    have nd := sc_look_sum.nd
    (ss_one (s_ret (pf_b1 (cf_sum rfl) T.b_sum bb_sum (PE.o (pf_sl (PE.o (pf_ix (hu_of hr) (PE.o (pf_fld 0 1 T.c0 (PE.o (pf_v 0)))) (PE.o (pf_v 1)))) (part_some (pf_bin of_sub (PE.o (pf_v 2)) (PE.o (pf_v 1)))) (part_some (pf_bin of_add (PE.o (pf_bin of_sub (PE.o (pf_v 3)) (PE.o (pf_v 1)))) (PE.o pf_int))))))))

theorem sc_Solver_span_cost : FnScope ["self", "most", "first", "last", "found"] ["self", "most", "first", "last"] (defScope (inClass (top 30) 6)) := ⟨rfl, rfl, rfl, by decide +kernel, rfl, by decide +kernel, by decide +kernel⟩

theorem ok_Solver_span_cost (T : Tx K mg) {r_Solver_own_cost : Fn} (h_Solver_own_cost : MetOk P w K mg base ct k 1 "own_cost" 4 r_Solver_own_cost) (hk : 2 ≤ k := by omega) : MetOk P w K mg base ct (k + 1) 1 "span_cost" 4 (F_Solver_span_cost r_Solver_own_cost) :=
  met_ok T.m_Solver_span_cost sc_Solver_span_cost rfl rfl (by decide) fun f cdv A outer s0 H E hr =>
    have nd := sc_Solver_span_cost.nd
    (ss_cons (s_set 4 nd (pf_meth hr (h_Solver_own_cost.mono (by omega)) (pf_v 0) (paf_cons (pf_v 1) (paf_cons (pf_v 2) (paf_cons (pf_v 3) paf_nil))))) (ss_one (s_ret (pf_if (pt_isN (PE.o (pf_v 4))) pf_non (pf_bin of_add (PE.o (pf_v 4)) (PE.o (pf_call0 hr ((ok_look_sum T).mono (by omega)) (paf_cons (pf_fld 1 0 T.c1 (PE.o (pf_v 0))) (paf_cons (pf_v 2) (paf_cons (pf_v 2) (paf_cons (pf_v 3) paf_nil)))))))))))

theorem sc_Solver_behind_cost : FnScope ["self", "most", "top", "last"] ["self", "most", "top", "last"] (defScope (inClass (top 30) 3)) := ⟨rfl, rfl, rfl, by decide +kernel, rfl, by decide +kernel, by decide +kernel⟩

theorem ok_Solver_behind_cost (T : Tx K mg) {r_Solver_own_cost : Fn} (h_Solver_own_cost : MetOk P w K mg base ct k 1 "own_cost" 4 r_Solver_own_cost) (hk : 2 ≤ k := by omega) : MetOk P w K mg base ct (k + 2) 1 "behind_cost" 4 (F_Solver_behind_cost r_Solver_own_cost) :=
  met_ok T.m_Solver_behind_cost sc_Solver_behind_cost rfl rfl (by decide) fun f cdv A outer s0 H E hr =>
    have nd := sc_Solver_behind_cost.nd
    (ss_cons (s_if (pt_cmp' (of_eq hr.units) (PE.o (pf_v 2)) (PE.o (pf_v 3)) (nomark _)) (ss_one (s_ret pf_int)) ss_nil) (ss_one (s_ret (pf_if (pt_cmp' of_gt (PE.o (pf_v 1)) (PE.o pf_int) (nomark _)) (pf_meth hr ((ok_Solver_span_cost T h_Solver_own_cost).mono (by omega)) (pf_v 0) (paf_cons (pf_bin of_sub (PE.o (pf_v 1)) (PE.o pf_int)) (paf_cons (pf_bin of_add (PE.o (pf_v 2)) (PE.o pf_int)) (paf_cons (pf_v 3) paf_nil)))) pf_non))))

theorem sc_Solver_top_cost : FnScope ["self", "most", "first", "last", "top", "ahead", "behind"] ["self", "most", "first", "last", "top"] (defScope (inClass (top 30) 4)) := ⟨rfl, rfl, rfl, by decide +kernel, rfl, by decide +kernel, by decide +kernel⟩

theorem ok_Solver_top_cost (T : Tx K mg) {r_Solver_own_cost : Fn} (h_Solver_own_cost : MetOk P w K mg base ct k 1 "own_cost" 4 r_Solver_own_cost) (hk : 2 ≤ k := by omega) : MetOk P w K mg base ct (k + 3) 1 "top_cost" 5 (F_Solver_top_cost r_Solver_own_cost) :=
  met_ok T.m_Solver_top_cost sc_Solver_top_cost rfl rfl (by decide) fun f cdv A outer s0 H E hr =>
    have nd := sc_Solver_top_cost.nd
    (ss_cons (s_set 5 nd (pf_meth hr ((ok_Solver_ahead_cost T h_Solver_own_cost).mono (by omega)) (pf_v 0) (paf_cons (pf_v 1) (paf_cons (pf_v 2) (paf_cons (pf_v 4) paf_nil))))) (ss_cons (s_if (pt_isN (PE.o (pf_v 5))) (ss_one (s_ret pf_non)) ss_nil) (ss_cons (s_set 6 nd (pf_meth hr ((ok_Solver_behind_cost T h_Solver_own_cost).mono (by omega)) (pf_v 0) (paf_cons (pf_v 1) (paf_cons (pf_v 4) (paf_cons (pf_v 3) paf_nil))))) (ss_one (s_ret (pf_if (pt_isN (PE.o (pf_v 6))) pf_non (pf_bin of_add (PE.o (pf_v 5)) (PE.o (pf_v 6)))))))))

theorem sc_Solver_own_cost : FnScope ["self", "most", "first", "last", "key", "some", "top", "one"] ["self", "most", "first", "last"] (defScope (inClass (top 30) 5)) := ⟨rfl, rfl, rfl, by decide +kernel, rfl, by decide +kernel, by decide +kernel⟩

theorem ok_Solver_own_cost (T : Tx K mg) : ∀ n : Nat, MetOk P w K mg base ct (2 + 4 * n) 1 "own_cost" 4 (F_Solver_own_cost n)
  | 0 => met_no T.m_Solver_own_cost
  | n + 1 => by
    have h_Solver_own_cost := ok_Solver_own_cost T n
    have q : ∀ k, 2 + 4 * n + 4 = k + 1 → MetOk P w K mg base ct (k + 1) 1 "own_cost" 4 (F_Solver_own_cost (n + 1)) := fun k hk => by
      exact met_ok T.m_Solver_own_cost sc_Solver_own_cost rfl rfl (by decide) fun f cdv A outer s0 H E hr =>
    have nd := sc_Solver_own_cost.nd
    (ss_cons (s_set 4 nd (pf_meth hr ((ok_Solver_capped T).mono (by omega)) (pf_v 0) (paf_cons (pf_v 1) (paf_cons (pf_v 2) (paf_cons (pf_v 3) paf_nil))))) (ss_cons (s_if (pt_cmp' (of_notIn (hu_of hr)) (PE.o (pf_v 4)) (PE.o (pf_fld 1 2 T.c1 (PE.o (pf_v 0)))) (by rfl)) (ss_cons (s_setLc 5 rfl nd (sw_true rfl rfl rfl (by decide +kernel)) (own := [("top", 6)]) (gt := (gName 6)) (pi_rng2 T.b_range (pf_v 2) (pf_bin of_add (PE.o (pf_v 3)) (PE.o pf_int))) (blkOk_by rfl) (fun _ _ _ _ _ => (pg_n 6 nd)) (fun _ _ _ _ _ => ptsf_nil) (fun _ _ _ _ _ => (pf_meth hr ((ok_Solver_top_cost T h_Solver_own_cost).mono (by omega)) (pf_v 0) (paf_cons (pf_ix (hu_of hr) (PE.o (pf_v 4)) (PE.o pf_int)) (paf_cons (pf_v 2) (paf_cons (pf_v 3) (paf_cons (pf_v 6) paf_nil))))))) (ss_cons (s_setLc 5 rfl nd (sw_true rfl rfl rfl (by decide +kernel)) (own := [("one", 7)]) (gt := (gName 7)) (pi_seq (pf_v 5)) (blkOk_by rfl) (fun _ _ _ _ _ => (pg_n 7 nd)) (fun _ _ _ _ _ => (ptsf_one (pt_notN (PE.o (pf_v 7))))) (fun _ _ _ _ _ => (pf_v 7))) (ss_one (s_put (hu_of hr) (pr_loc (pf_fld 1 2 T.c1 (PE.o (pf_v 0)))) (pf_v 4) (pf_if (pt_cmp' of_gt (PE.o (pf_b1 cf_len T.b_len bb_len (PE.o (pf_v 5)))) (PE.o pf_int) (nomark _)) (pf_b1 (cf_min rfl) T.b_min bb_min (PE.o (pf_v 5))) pf_non))))) ss_nil) (ss_one (s_ret (pf_ix (hu_of hr) (PE.o (pf_fld 1 2 T.c1 (PE.o (pf_v 0)))) (PE.o (pf_v 4)))))))
    exact q (2 + 4 * n + 3) (by omega)

theorem sc_Solver___init__ : FnScope ["self", "task", "may"] ["self", "task", "may"] (defScope (inClass (top 30) 0)) := ⟨rfl, rfl, rfl, by decide +kernel, rfl, by decide +kernel, by decide +kernel⟩

theorem ok_Solver___init__ (T : Tx K mg) : IniOk P w K mg base ct 1 1 "Solver" 3 F_Solver___init__ :=
  ini_ok T.i_Solver sc_Solver___init__ rfl rfl (by decide) fun f cdv A outer s0 H E hr =>
    have nd := sc_Solver___init__.nd
    (ss_cons (s_fld 1 0 T.c1 (pr_loc (pf_v 0)) (pf_v 1)) (ss_cons (s_fld 1 1 T.c1 (pr_loc (pf_v 0)) (pf_v 2)) (ss_cons (s_fld 1 2 T.c1 (pr_loc (pf_v 0)) (pf_new n_dT)) (ss_cons (s_fld 1 3 T.c1 (pr_loc (pf_v 0)) (pf_new n_dT)) (ss_one (s_fld 1 4 T.c1 (pr_loc (pf_v 0)) (pf_new n_dT)))))))

theorem sc_length_of : FnScope ["task"] ["task"] (defScope (top 24)) := ⟨rfl, rfl, rfl, by decide +kernel, rfl, by decide +kernel, by decide +kernel⟩

theorem ok_length_of (T : Tx K mg) : DefOk P w K mg base ct 1 "length_of" 1 F_length_of :=
  def_ok T.f_length_of sc_length_of rfl rfl (by decide) fun f cdv A outer s0 H E hr =>
    have nd := sc_length_of.nd
    (ss_one (s_ret (pf_b1 cf_len T.b_len bb_len (PE.o (pf_fld 0 0 T.c0 (PE.o (pf_v 0)))))))

theorem sc_least_cost : FnScope ["task", "most"] ["task", "most"] (defScope (top 31)) := ⟨rfl, rfl, rfl, by decide +kernel, rfl, by decide +kernel, by decide +kernel⟩

theorem ok_least_cost (T : Tx K mg) : DefOk P w K mg base ct 60 "least_cost" 2 F_least_cost :=
  .scp (def_ok T.f_least_cost sc_least_cost rfl rfl (by decide) fun f cdv A outer s0 H E hr =>
    have nd := sc_least_cost.nd
    (ss_one (s_ret (pf_meth hr ((ok_Solver_span_cost T (ok_Solver_own_cost T 14)).mono (by omega)) (pf_mk hr ((ok_Solver___init__ T).mono (by omega)) (paf_cons (pf_v 0) (paf_cons (pf_fn (let ⟨f, _, h, _⟩ := T.f_may_all.ex; ⟨f, h⟩)) paf_nil))) (paf_cons (pf_v 1) (paf_cons pf_int (paf_cons (pf_bin of_sub (PE.o (pf_call0 hr ((ok_length_of T).mono (by omega)) (paf_cons (pf_v 0) paf_nil))) (PE.o pf_int)) paf_nil)))))))

theorem sc_is_row : FnScope ["thing", "size", "least", "most", "number"] ["thing", "size", "least", "most"] (defScope (top 11)) := ⟨rfl, rfl, rfl, by decide +kernel, rfl, by decide +kernel, by decide +kernel⟩

theorem ok_is_row (T : Tx K mg) : DefOk P w K mg base ct 3 "is_row" 4 F_is_row :=
  def_ok T.f_is_row sc_is_row rfl rfl (by decide) fun f cdv A outer s0 H E hr =>
    have nd := sc_is_row.nd
    (ss_cons (s_if (PW.pt (pw_or' (pt_not' (pt_v (pf_isi (n := "tuple") (by decide) T.b_isinstance T.b_tuple bb_tuple (PE.o (pf_v 0))))) (pw_or1' (pt_cmp' (of_ne hr.units) (PE.o (pf_b1 cf_len T.b_len bb_len (PE.o (pf_v 0)))) (PE.o (pf_v 1)) (nomark _))))) (ss_one (s_ret pf_bl)) ss_nil) (ss_one (s_ret (pf_b1 (cf_all rfl) T.b_all bb_all (PE.o (pf_n (n_comp (own := [("number", 4)]) (gt := (gName 4)) rfl nd (pi_seq (pf_v 0)) (blkOk_by rfl) (fun _ _ _ _ _ => (pg_n 4 nd)) (fun _ _ _ _ _ => ptsf_nil) (fun _ _ _ _ _ => (pf_call0 hr ((ok_is_within T).mono (by omega)) (paf_cons (pf_v 4) (paf_cons (pf_v 2) (paf_cons (pf_v 3) paf_nil))))))))))))

theorem sc_first_wrong_row : FnScope ["rows", "least", "most", "number", "row"] ["rows", "least", "most"] (defScope (top 12)) := ⟨rfl, rfl, rfl, by decide +kernel, rfl, by decide +kernel, by decide +kernel⟩

theorem ok_first_wrong_row (T : Tx K mg) : DefOk P w K mg base ct 4 "first_wrong_row" 3 F_first_wrong_row :=
  def_ok T.f_first_wrong_row sc_first_wrong_row rfl rfl (by decide) fun f cdv A outer s0 H E hr =>
    have nd := sc_first_wrong_row.nd
    (ss_cons (s_for (passes_of rfl) rfl (pi_enm T.b_enumerate (pf_v 0)) (pg_t rfl (pgs_c (pg_n 3 nd) (pgs_c (pg_n 4 nd) pgs_n))) (ss_one (s_if (pt_not' (pt_v (pf_call0 hr ((ok_is_row T).mono (by omega)) (paf_cons (pf_v 4) (paf_cons (pf_bin of_sub (PE.o (pf_b1 cf_len T.b_len bb_len (PE.o (pf_v 0)))) (PE.o (pf_v 3))) (paf_cons (pf_v 1) (paf_cons (pf_v 2) paf_nil))))))) (ss_one (s_ret (pf_v 3))) ss_nil))) (ss_one (s_ret pf_non)))

theorem sc_Task___init__ : FnScope ["self", "writes", "looks", "wrong"] ["self", "writes", "looks"] (defScope (inClass (top 22) 0)) := ⟨rfl, rfl, rfl, by decide +kernel, rfl, by decide +kernel, by decide +kernel⟩

theorem ok_Task___init__ (T : Tx K mg) : IniOk P w K mg base ct 5 0 "Task" 3 F_Task___init__ :=
  ini_ok T.i_Task sc_Task___init__ rfl rfl (by decide) fun f cdv A outer s0 H E hr =>
    have nd := sc_Task___init__.nd
    (ss_cons (s_if (PW.pt (pw_or' (pt_not' (pt_v (pf_isi (n := "tuple") (by decide) T.b_isinstance T.b_tuple bb_tuple (PE.o (pf_v 1))))) (pw_or1' (pt_not' (pt_ch of_le of_le (PE.o pf_int) (PE.o (pf_b1 cf_len T.b_len bb_len (PE.o (pf_v 1)))) (PE.o (pf_gl T.n_MOST_HOURS_tasks))))))) (ss_one s_never) ss_nil) (ss_cons (s_set 3 nd (pf_call0 hr ((ok_first_wrong_row T).mono (by omega)) (paf_cons (pf_v 1) (paf_cons pf_int (paf_cons (pf_gl T.n_MOST_PRICE) paf_nil))))) (ss_cons (s_if (pt_notN (PE.o (pf_v 3))) (ss_one s_never) ss_nil) (ss_cons (s_if (PW.pt (pw_or' (pt_not' (pt_v (pf_isi (n := "tuple") (by decide) T.b_isinstance T.b_tuple bb_tuple (PE.o (pf_v 2))))) (pw_or1' (pt_cmp' (of_ne hr.units) (PE.o (pf_b1 cf_len T.b_len bb_len (PE.o (pf_v 2)))) (PE.o (pf_b1 cf_len T.b_len bb_len (PE.o (pf_v 1)))) (nomark _))))) (ss_one s_never) ss_nil) (ss_cons (s_set 3 nd (pf_call0 hr ((ok_first_wrong_row T).mono (by omega)) (paf_cons (pf_v 2) (paf_cons pf_int (paf_cons (pf_gl T.n_MOST_PRICE) paf_nil))))) (ss_cons (s_if (pt_notN (PE.o (pf_v 3))) (ss_one s_never) ss_nil) (ss_cons (s_fld 0 0 T.c0 (pr_loc (pf_v 0)) (pf_v 1)) (ss_one (s_fld 0 1 T.c0 (pr_loc (pf_v 0)) (pf_v 2))))))))))

theorem sc_raw_task : FnScope ["writes", "looks", "task"] ["writes", "looks"] (defScope (top 23)) := ⟨rfl, rfl, rfl, by decide +kernel, rfl, by decide +kernel, by decide +kernel⟩

theorem ok_raw_task (T : Tx K mg) : DefOk P w K mg base ct 7 "raw_task" 2 F_raw_task :=
  def_ok T.f_raw_task sc_raw_task rfl rfl (by decide) fun f cdv A outer s0 H E hr =>
    have nd := sc_raw_task.nd
    (ss_cons (s_own 2 nd (n_mk hr ((ok_Task___init__ T).mono (by omega)) (paf_cons (pf_tup (paf_cons (pf_tup (paf_cons pf_int paf_nil)) paf_nil)) (paf_cons (pf_tup (paf_cons (pf_tup (paf_cons pf_int paf_nil)) paf_nil)) paf_nil)))) (ss_cons (s_fld 0 0 T.c0 (pr_own 2) (pf_ty1 cf_tuple T.b_tuple bb_tuple (PE.o (pf_v 0)))) (ss_cons (s_fld 0 1 T.c0 (pr_own 2) (pf_ty1 cf_tuple T.b_tuple bb_tuple (PE.o (pf_v 1)))) (ss_frz 2 (ss_one (s_ret (pf_v 2)))))))

theorem sc_sized_task : FnScope ["sizes", "look", "hours", "writes", "first", "last"] ["sizes", "look"] (defScope (top 27)) := ⟨rfl, rfl, rfl, by decide +kernel, rfl, by decide +kernel, by decide +kernel⟩

theorem ok_sized_task (T : Tx K mg) : DefOk P w K mg base ct 8 "sized_task" 2 F_sized_task :=
  def_ok T.f_sized_task sc_sized_task rfl rfl (by decide) fun f cdv A outer s0 H E hr =>
    have nd := sc_sized_task.nd
    (ss_cons (s_set 2 nd (pf_b1 cf_len T.b_len bb_len (PE.o (pf_v 0)))) (ss_cons (s_setLc 3 rfl nd (sw_true rfl rfl rfl (by decide +kernel)) (own := [("first", 4)]) (gt := (gName 4)) (pi_rng T.b_range (pf_v 2)) (blkOk_by rfl) (fun _ _ _ _ _ => (pg_n 4 nd)) (fun _ _ _ _ _ => ptsf_nil) (fun _ _ _ _ _ => (pf_ty1 cf_tuple T.b_tuple bb_tuple (PE.o (pf_n (n_comp (own := [("last", 5)]) (gt := (gName 5)) rfl nd (pi_rng2 T.b_range (pf_v 4) (pf_v 2)) (blkOk_by rfl) (fun _ _ _ _ _ => (pg_n 5 nd)) (fun _ _ _ _ _ => ptsf_nil) (fun _ _ _ _ _ => (pf_b1 (cf_sum rfl) T.b_sum bb_sum (PE.o (pf_sl (PE.o (pf_v 0)) (part_some (pf_v 4)) (part_some (pf_bin of_add (PE.o (pf_v 5)) (PE.o pf_int))))))))))))) (ss_one (s_ret (pf_call0 hr ((ok_raw_task T).mono (by omega)) (paf_cons (pf_v 3) (paf_cons (pf_n (n_comp (own := [("first", 4)]) (gt := (gName 4)) rfl nd (pi_rng T.b_range (pf_v 2)) (blkOk_by rfl) (fun _ _ _ _ _ => (pg_n 4 nd)) (fun _ _ _ _ _ => ptsf_nil) (fun _ _ _ _ _ => (pf_bin of_mul (PE.o (pf_tup (paf_cons (pf_v 1) paf_nil))) (PE.o (pf_bin of_sub (PE.o (pf_v 2)) (PE.o (pf_v 4)))))))) paf_nil)))))))

theorem sc_least_there : FnScope ["sizes", "most"] ["sizes", "most"] (defScope (top 33)) := ⟨rfl, rfl, rfl, by decide +kernel, rfl, by decide +kernel, by decide +kernel⟩

theorem ok_least_there (T : Tx K mg) : DefOk P w K mg base ct 61 "least_there" 2 F_least_there :=
  def_ok T.f_least_there sc_least_there rfl rfl (by decide) fun f cdv A outer s0 H E hr =>
    have nd := sc_least_there.nd
    (ss_one (s_ret (pf_call0 hr ((ok_least_cost T).mono (by omega)) (paf_cons (pf_call0 hr ((ok_sized_task T).mono (by omega)) (paf_cons (pf_v 0) (paf_cons pf_int paf_nil))) (paf_cons (pf_v 1) paf_nil)))))

theorem sc_Game___init__ : FnScope ["self", "most", "hours", "size", "row"] ["self", "most", "hours", "size"] (defScope (inClass (top 48) 0)) := ⟨rfl, rfl, rfl, by decide +kernel, rfl, by decide +kernel, by decide +kernel⟩

theorem ok_Game___init__ (T : Tx K mg) : IniOk P w K mg base ct 62 3 "Game" 4 F_Game___init__ :=
  ini_ok T.i_Game sc_Game___init__ rfl rfl (by decide) fun f cdv A outer s0 H E hr =>
    have nd := sc_Game___init__.nd
    (ss_cons (s_fld 3 0 T.c3 (pr_loc (pf_v 0)) (pf_v 1)) (ss_cons (s_fld 3 1 T.c3 (pr_loc (pf_v 0)) (pf_v 2)) (ss_cons (s_fld 3 2 T.c3 (pr_loc (pf_v 0)) (pf_n (n_lrg2 rfl T.b_list T.b_range pf_int (pf_bin of_add (PE.o (pf_v 3)) (PE.o pf_int))))) (ss_one (s_fld 3 3 T.c3 (pr_loc (pf_v 0)) (pf_n (n_dcompT (hu_of hr) (own := [("row", 4)]) (gt := (gName 4)) rfl nd (pi_seq (pf_call0 hr ((ok_rows_of T).mono (by omega)) (paf_cons (pf_v 2) (paf_cons (pf_v 3) paf_nil)))) (blkOk_by rfl) (fun _ _ _ _ _ => (pg_n 4 nd)) (fun _ _ _ _ _ => ptsf_nil) (fun _ _ _ _ _ => (pf_v 4)) (fun _ _ _ _ _ => (pf_call0 hr ((ok_least_there T).mono (by omega)) (paf_cons (pf_v 4) (paf_cons (pf_v 1) paf_nil)))))))))))

theorem sc_begin : FnScope [] [] (defScope (top 49)) := ⟨rfl, rfl, rfl, by decide +kernel, rfl, by decide +kernel, by decide +kernel⟩

theorem ok_begin (T : Tx K mg) : DefOk P w K mg base ct 3 "begin" 0 F_begin :=
  def_ok T.f_begin sc_begin rfl rfl (by decide) fun f cdv A outer s0 H E hr =>
    have nd := sc_begin.nd
    (ss_one (s_ret (pf_n (n_mk hr ((ok_Spot___init__ T).mono (by omega)) (paf_cons (pf_tup paf_nil) (paf_cons (pf_tup paf_nil) (paf_cons (pf_tup paf_nil) (paf_cons pf_int paf_nil))))))))

theorem sc_keepers_book : FnScope ["most", "hours", "size", "ratio", "book"] ["most", "hours", "size", "ratio"] (defScope (top 50)) := ⟨rfl, rfl, rfl, by decide +kernel, rfl, by decide +kernel, by decide +kernel⟩

theorem ok_keepers_book (T : Tx K mg) : DefOk P w K mg base ct 64 "keepers_book" 4 F_keepers_book :=
  def_ok T.f_keepers_book sc_keepers_book rfl rfl (by decide) fun f cdv A outer s0 H E hr =>
    have nd := sc_keepers_book.nd
    (ss_cons (s_expr (pf_call0 hr ((ok_check_ratio_game T).mono (by omega)) (paf_cons (pf_v 0) (paf_cons (pf_v 1) (paf_cons (pf_v 2) (paf_cons (pf_v 3) paf_nil)))))) (ss_cons (s_set 4 nd (pf_new n_dT)) (ss_one (s_ret (pf_if (pt_v (pf_meth hr ((ok_Game_keeper_holds T 8).mono (by omega)) (pf_n (n_mk hr ((ok_Game___init__ T).mono (by omega)) (paf_cons (pf_v 0) (paf_cons (pf_v 1) (paf_cons (pf_v 2) paf_nil))))) (paf_cons (pf_call00 hr ((ok_begin T).mono (by omega))) (paf_cons (pf_v 3) (paf_cons (pf_v 4) paf_nil))))) (pf_v 4) pf_non)))))

theorem sc_Game_foe_goes : FnScope ["self", "spot", "ratio", "book", "size", "later", "other", "answer"] ["self", "spot", "ratio", "book"] (defScope (inClass (top 48) 7)) := ⟨rfl, rfl, rfl, by decide +kernel, rfl, by decide +kernel, by decide +kernel⟩

theorem ok_Game_foe_goes (T : Tx K mg) : ∀ n : Nat, MetOk P w K mg base ct (14 + 1 * n) 3 "foe_goes" 4 (F_Game_foe_goes n)
  | 0 => met_no T.m_Game_foe_goes
  | n + 1 => by
    have h_Game_foe_goes := ok_Game_foe_goes T n
    have q : ∀ k, 14 + 1 * n + 1 = k + 1 → MetOk P w K mg base ct (k + 1) 3 "foe_goes" 4 (F_Game_foe_goes (n + 1)) := fun k hk => by
      exact met_ok T.m_Game_foe_goes sc_Game_foe_goes rfl rfl (by decide) fun f cdv A outer s0 H E hr =>
    have nd := sc_Game_foe_goes.nd
    (ss_cons (s_if (pt_v (pf_meth hr ((ok_Game_is_above T).mono (by omega)) (pf_v 0) (paf_cons (pf_v 1) (paf_cons (pf_v 2) paf_nil)))) (ss_cons (s_put (hu_of hr) (pr_loc (pf_v 3)) (pf_fld 2 1 T.c2 (PE.o (pf_v 1))) pf_int) (ss_one s_retN)) ss_nil) (ss_one (s_for (passes_of rfl) rfl (pi_seq (pf_fld 3 2 T.c3 (PE.o (pf_v 0)))) (pg_n 4 nd) (ss_cons (s_setLc 5 rfl nd (sw_true rfl rfl rfl (by decide +kernel)) (own := [("answer", 7)]) (gt := (gName 7)) (pi_seq (pf_meth hr ((ok_Game_answers_at T).mono (by omega)) (pf_v 0) (paf_cons (pf_v 1) paf_nil))) (blkOk_by rfl) (fun _ _ _ _ _ => (pg_n 7 nd)) (fun _ _ _ _ _ => ptsf_nil) (fun _ _ _ _ _ => (pf_meth hr ((ok_Spot_behind T).mono (by omega)) (pf_v 1) (paf_cons (pf_v 4) (paf_cons (pf_v 7) paf_nil))))) (ss_one (s_if (PW.pt (pw_and' (pt_cmp' of_lt (PE.o (pf_b1 cf_len T.b_len bb_len (PE.o (pf_fld 2 0 T.c2 (PE.o (pf_v 1)))))) (PE.o (pf_fld 3 1 T.c3 (PE.o (pf_v 0)))) (nomark _)) (pw_and1' (pt_not' (pt_v (pf_b1 (cf_any rfl) T.b_any bb_any (PE.o (pf_n (n_comp (own := [("other", 6)]) (gt := (gName 6)) rfl nd (pi_seq (pf_v 5)) (blkOk_by rfl) (fun _ _ _ _ _ => (pg_n 6 nd)) (fun _ _ _ _ _ => ptsf_nil) (fun _ _ _ _ _ => (pf_meth hr ((ok_Game_holds T).mono (by omega)) (pf_v 0) (paf_cons (pf_v 6) (paf_cons (pf_v 2) paf_nil))))))))))))) (ss_cons (s_put (hu_of hr) (pr_loc (pf_v 3)) (pf_fld 2 1 T.c2 (PE.o (pf_v 1))) (pf_v 4)) (ss_cons (s_for (passes_of rfl) rfl (pi_seq (pf_v 5)) (pg_n 6 nd) (ss_one (s_expr (pf_meth hr (h_Game_foe_goes.mono (by omega)) (pf_v 0) (paf_cons (pf_v 6) (paf_cons (pf_v 2) (paf_cons (pf_v 3) paf_nil))))))) (ss_one s_retN))) ss_nil))))))
    exact q (14 + 1 * n + 0) (by omega)

theorem sc_foes_book : FnScope ["most", "hours", "size", "ratio", "game", "book"] ["most", "hours", "size", "ratio"] (defScope (top 51)) := ⟨rfl, rfl, rfl, by decide +kernel, rfl, by decide +kernel, by decide +kernel⟩

theorem ok_foes_book (T : Tx K mg) : DefOk P w K mg base ct 64 "foes_book" 4 F_foes_book :=
  def_ok T.f_foes_book sc_foes_book rfl rfl (by decide) fun f cdv A outer s0 H E hr =>
    have nd := sc_foes_book.nd
    (ss_cons (s_expr (pf_call0 hr ((ok_check_ratio_game T).mono (by omega)) (paf_cons (pf_v 0) (paf_cons (pf_v 1) (paf_cons (pf_v 2) (paf_cons (pf_v 3) paf_nil)))))) (ss_cons (s_set 4 nd (pf_n (n_mk hr ((ok_Game___init__ T).mono (by omega)) (paf_cons (pf_v 0) (paf_cons (pf_v 1) (paf_cons (pf_v 2) paf_nil)))))) (ss_cons (s_if (pt_v (pf_meth hr ((ok_Game_holds T).mono (by omega)) (pf_v 4) (paf_cons (pf_call00 hr ((ok_begin T).mono (by omega))) (paf_cons (pf_v 3) paf_nil)))) (ss_one (s_ret pf_non)) ss_nil) (ss_cons (s_set 5 nd (pf_new n_dT)) (ss_cons (s_expr (pf_meth hr ((ok_Game_foe_goes T 8).mono (by omega)) (pf_v 4) (paf_cons (pf_call00 hr ((ok_begin T).mono (by omega))) (paf_cons (pf_v 3) (paf_cons (pf_v 5) paf_nil))))) (ss_one (s_ret (pf_v 5))))))))

theorem sc__law_whole : FnScope ["_law_thing", "_law_least_here", "_law_most"] ["_law_thing", "_law_least_here", "_law_most"] (defScope (top 58)) := ⟨rfl, rfl, rfl, by decide +kernel, rfl, by decide +kernel, by decide +kernel⟩

theorem ok__law_whole (T : Tx K mg) : DefOk P w K mg base ct 1 "_law_whole" 3 F__law_whole :=
  def_ok T.f__law_whole sc__law_whole rfl rfl (by decide) fun f cdv A outer s0 H E hr =>
    have nd := sc__law_whole.nd
    (ss_one (s_ret (pf_and (pf_isi (n := "int") (by decide) T.b_isinstance T.b_int bb_int (PE.o (pf_v 0))) (pf_and (pf_not (pf_isi (n := "bool") (by decide) T.b_isinstance T.b_bool bb_bool (PE.o (pf_v 0)))) (pf_one (pf_ch of_le of_le (PE.o (pf_v 1)) (PE.o (pf_v 0)) (PE.o (pf_v 2))))))))

theorem sc__law_is_foes : FnScope ["_law_game_here", "_law_ratio_here", "_law_thing", "_law_waiting", "_law_many", "_law_size", "_law_told", "_law_row", "_law_begins", "_law_paid", "_law_stay", "_law_begin", "_law_more_here"] ["_law_game_here", "_law_ratio_here", "_law_thing"] (defScope (top 69)) := ⟨rfl, rfl, rfl, by decide +kernel, rfl, by decide +kernel, by decide +kernel⟩

theorem ok__law_is_foes (T : Tx K mg) : DefOk P w K mg base ct 3 "_law_is_foes" 3 F__law_is_foes :=
  def_ok T.f__law_is_foes sc__law_is_foes rfl rfl (by decide) fun f cdv A outer s0 H E hr =>
    have nd := sc__law_is_foes.nd
    (ss_cons (s_if (pt_not' (pt_v (pf_isd T.b_isinstance T.b_dict (pf_v 2)))) (ss_one (s_ret pf_bl)) ss_nil) (ss_cons (s_own 3 nd (n_lst (paf_cons (pf_tup (paf_cons (pf_tup paf_nil) (paf_cons (pf_tup paf_nil) (paf_cons (pf_tup paf_nil) (paf_cons pf_int paf_nil))))) paf_nil))) (ss_cons (s_set 4 nd pf_int) (ss_cons (s_while (passes_of rfl) (pt_cmp' of_gt (PE.o (pf_b1 cf_len T.b_len bb_len (po_own 3))) (PE.o pf_int) (nomark _)) (ss_cons (s_pop (pr_own 3) (pg_t rfl (pgs_c (pg_n 6 nd) (pgs_c (pg_n 7 nd) (pgs_c (pg_n 8 nd) (pgs_c (pg_n 9 nd) pgs_n)))))) (ss_cons (s_set 4 nd (pf_bin of_add (PE.o (pf_v 4)) (PE.o pf_int))) (ss_cons (s_if (PW.pt (pw_or' (pt_cmp' (of_notIn (hu_of hr)) (PE.o (pf_v 6)) (PE.o (pf_v 2)) (by rfl)) (pw_or1' (pt_not' (pt_v (pf_call0 hr ((ok__law_whole T).mono (by omega)) (paf_cons (pf_ix (hu_of hr) (PE.o (pf_v 2)) (PE.o (pf_v 6))) (paf_cons pf_int (paf_cons (pf_ix (hu_of hr) (PE.o (pf_v 0)) (PE.o pf_int)) paf_nil))))))))) (ss_one (s_ret pf_bl)) ss_nil) (ss_cons (s_set 5 nd (pf_ix (hu_of hr) (PE.o (pf_v 2)) (PE.o (pf_v 6)))) (ss_one (s_if (pt_cmp' (of_eq hr.units) (PE.o (pf_v 5)) (PE.o pf_int) (nomark _)) (ss_one (s_if (PW.pt (pw_or' (pt_cmp' (of_eq hr.units) (PE.o (pf_v 7)) (PE.o (pf_tup paf_nil)) (nomark _)) (pw_or1' (pt_cmp' of_le (PE.o (pf_bin of_mul (PE.o (pf_v 9)) (PE.o (pf_ix (hu_of hr) (PE.o (pf_v 1)) (PE.o pf_int))))) (PE.o (pf_bin of_mul (PE.o (pf_ix (hu_of hr) (PE.o (pf_v 1)) (PE.o pf_int))) (PE.o (pf_call0 hr ((ok__law_due T).mono (by omega)) (paf_cons (pf_v 0) (paf_cons (pf_v 7) paf_nil)))))) (nomark _))))) (ss_one (s_ret pf_bl)) ss_nil)) (ss_one (s_if (pt_cmp' (of_eq hr.units) (PE.o (pf_b1 cf_len T.b_len bb_len (PE.o (pf_v 7)))) (PE.o (pf_ix (hu_of hr) (PE.o (pf_v 0)) (PE.o pf_int))) (nomark _)) (ss_one (s_ret pf_bl)) (ss_one (s_for (passes_of rfl) rfl (pi_rng T.b_range (pf_bin of_add (PE.o (pf_b2 (cf_min2 rfl) T.b_min bb_min (PE.o (pf_b1 cf_len T.b_len bb_len (PE.o (pf_v 8)))) (PE.o (pf_bin of_sub (PE.o (pf_ix (hu_of hr) (PE.o (pf_v 0)) (PE.o pf_int))) (PE.o pf_int))))) (PE.o pf_int))) (pg_n 10 nd) (ss_cons (s_set 11 nd (pf_if (pt_cmp' of_lt (PE.o (pf_v 10)) (PE.o (pf_b1 cf_len T.b_len bb_len (PE.o (pf_v 8)))) (nomark _)) (pf_ix (hu_of hr) (PE.o (pf_v 8)) (PE.o (pf_v 10))) (pf_b1 cf_len T.b_len bb_len (PE.o (pf_v 7))))) (ss_cons (s_set 12 nd (pf_bin of_add (PE.o (pf_bin of_add (PE.o (pf_v 9)) (PE.o (pf_b1 (cf_sum rfl) T.b_sum bb_sum (PE.o (pf_sl (PE.o (pf_v 7)) (part_some (pf_v 11)) part_none)))))) (PE.o (pf_v 5)))) (ss_one (s_app (pr_own 3) (pf_tup (paf_cons (pf_bin of_add (PE.o (pf_v 6)) (PE.o (pf_tup (paf_cons (pf_v 10) paf_nil)))) (paf_cons (pf_bin of_add (PE.o (pf_v 7)) (PE.o (pf_tup (paf_cons (pf_v 5) paf_nil)))) (paf_cons (pf_bin of_add (PE.o (pf_sl (PE.o (pf_v 8)) part_none (part_some (pf_v 10)))) (PE.o (pf_tup (paf_cons (pf_v 11) paf_nil)))) (paf_cons (pf_v 12) paf_nil))))))))))))))))))) 20000) (ss_one (s_ret (pf_cmp (of_eq hr.units) (PE.o (pf_v 4)) (PE.o (pf_lent T.b_len (pf_v 2))) (nomark _))))))))

theorem sc_is_foes_word : FnScope ["game", "spot", "ratio", "word"] ["game", "spot", "ratio", "word"] (defScope (top 53)) := ⟨rfl, rfl, rfl, by decide +kernel, rfl, by decide +kernel, by decide +kernel⟩

theorem ok_is_foes_word (T : Tx K mg) : DefOk P w K mg base ct 3 "is_foes_word" 4 F_is_foes_word :=
  def_ok T.f_is_foes_word sc_is_foes_word rfl rfl (by decide) fun f cdv A outer s0 H E hr =>
    have nd := sc_is_foes_word.nd
    (ss_cons (s_if (pt_not' (pt_v (pf_call0 hr ((ok_is_within T).mono (by omega)) (paf_cons (pf_v 3) (paf_cons pf_int (paf_cons (pf_ix (hu_of hr) (PE.o (pf_fld 3 2 T.c3 (PE.o (pf_v 0)))) (PE.o (pf_neg (PE.o pf_int)))) paf_nil)))))) (ss_one (s_ret pf_bl)) ss_nil) (ss_one (s_ret (pf_if (pt_cmp' (of_eq hr.units) (PE.o (pf_v 3)) (PE.o pf_int) (nomark _)) (pf_meth hr ((ok_Game_is_above T).mono (by omega)) (pf_v 0) (paf_cons (pf_v 1) (paf_cons (pf_v 2) paf_nil))) (pf_cmp of_lt (PE.o (pf_b1 cf_len T.b_len bb_len (PE.o (pf_fld 2 0 T.c2 (PE.o (pf_v 1)))))) (PE.o (pf_fld 3 1 T.c3 (PE.o (pf_v 0)))) (nomark _))))))

theorem sc_is_foes_book : FnScope ["most", "hours", "size", "ratio", "thing", "game", "many", "todo", "spot", "word", "answer"] ["most", "hours", "size", "ratio", "thing"] (defScope (top 54)) := ⟨rfl, rfl, rfl, by decide +kernel, rfl, by decide +kernel, by decide +kernel⟩

theorem ok_is_foes_book (T : Tx K mg) : DefOk P w K mg base ct 64 "is_foes_book" 5 F_is_foes_book :=
  def_ok T.f_is_foes_book sc_is_foes_book rfl rfl (by decide) fun f cdv A outer s0 H E hr =>
    have nd := sc_is_foes_book.nd
    (ss_cons (s_expr (pf_call0 hr ((ok_check_ratio_game T).mono (by omega)) (paf_cons (pf_v 0) (paf_cons (pf_v 1) (paf_cons (pf_v 2) (paf_cons (pf_v 3) paf_nil)))))) (ss_cons (s_if (pt_not' (pt_v (pf_isd T.b_isinstance T.b_dict (pf_v 4)))) (ss_one (s_ret pf_bl)) ss_nil) (ss_cons (s_set 5 nd (pf_n (n_mk hr ((ok_Game___init__ T).mono (by omega)) (paf_cons (pf_v 0) (paf_cons (pf_v 1) (paf_cons (pf_v 2) paf_nil)))))) (ss_cons (s_set 6 nd pf_int) (ss_cons (s_own 7 nd (n_lst (paf_cons (pf_call00 hr ((ok_begin T).mono (by omega))) paf_nil))) (ss_cons (s_while (passes_of rfl) (pt_cmp' of_gt (PE.o (pf_b1 cf_len T.b_len bb_len (po_own 7))) (PE.o pf_int) (nomark _)) (ss_cons (s_pop (pr_own 7) (pg_n 8 nd)) (ss_cons (s_set 9 nd (pf_get (hu_of hr) (PE.o (pf_v 4)) (PE.o (pf_fld 2 1 T.c2 (PE.o (pf_v 8)))))) (ss_cons (s_if (pt_not' (pt_v (pf_call0 hr ((ok_is_foes_word T).mono (by omega)) (paf_cons (pf_v 5) (paf_cons (pf_v 8) (paf_cons (pf_v 3) (paf_cons (pf_v 9) paf_nil))))))) (ss_one (s_ret pf_bl)) ss_nil) (ss_cons (s_aug 6 ip_jAdd nd pf_int) (ss_one (s_if (pt_cmp' of_gt (PE.o (pf_v 9)) (PE.o pf_int) (nomark _)) (ss_one (s_ext (pr_own 7) (pf_n (n_comp (own := [("answer", 10)]) (gt := (gName 10)) rfl nd (pi_seq (pf_meth hr ((ok_Game_answers_at T).mono (by omega)) (pf_v 5) (paf_cons (pf_v 8) paf_nil))) (blkOk_by rfl) (fun _ _ _ _ _ => (pg_n 10 nd)) (fun _ _ _ _ _ => ptsf_nil) (fun _ _ _ _ _ => (pf_meth hr ((ok_Spot_behind T).mono (by omega)) (pf_v 8) (paf_cons (pf_v 9) (paf_cons (pf_v 10) paf_nil)))))))) ss_nil)))))) 20000) (ss_one (s_ret (pf_cmp (of_eq hr.units) (PE.o (pf_v 6)) (PE.o (pf_lent T.b_len (pf_v 4))) (nomark _))))))))))

theorem sc_many_rows : FnScope ["hours", "size", "found", "layer", "hour"] ["hours", "size"] (defScope (top 38)) := ⟨rfl, rfl, rfl, by decide +kernel, rfl, by decide +kernel, by decide +kernel⟩

theorem ok_many_rows (T : Tx K mg) : DefOk P w K mg base ct 1 "many_rows" 2 F_many_rows :=
  def_ok T.f_many_rows sc_many_rows rfl rfl (by decide) fun f cdv A outer s0 H E hr =>
    have nd := sc_many_rows.nd
    (ss_cons (s_set 2 nd pf_int) (ss_cons (s_set 3 nd pf_int) (ss_cons (s_for (passes_of rfl) rfl (pi_rng T.b_range (pf_v 0)) (pg_n 4 nd) (ss_cons (s_aug 3 ip_jMul nd (pf_v 1)) (ss_one (s_aug 2 ip_jAdd nd (pf_v 3))))) (ss_one (s_ret (pf_v 2))))))

theorem sc_may_stay : FnScope ["begins", "most", "answer"] ["begins", "most", "answer"] (defScope (top 35)) := ⟨rfl, rfl, rfl, by decide +kernel, rfl, by decide +kernel, by decide +kernel⟩

theorem ok_may_stay (T : Tx K mg) : DefOk P w K mg base ct 3 "may_stay" 3 F_may_stay :=
  def_ok T.f_may_stay sc_may_stay rfl rfl (by decide) fun f cdv A outer s0 H E hr =>
    have nd := sc_may_stay.nd
    (ss_one (s_ret (pf_call0 hr ((ok_is_within T).mono (by omega)) (paf_cons (pf_v 2) (paf_cons pf_int (paf_cons (pf_b2 (cf_min2 rfl) T.b_min bb_min (PE.o (pf_b1 cf_len T.b_len bb_len (PE.o (pf_v 0)))) (PE.o (pf_bin of_sub (PE.o (pf_v 1)) (PE.o pf_int)))) paf_nil))))))

theorem sc_is_keepers_book : FnScope ["most", "hours", "size", "ratio", "thing", "game", "spots", "row", "ahead"] ["most", "hours", "size", "ratio", "thing"] (defScope (top 52)) := ⟨rfl, rfl, rfl, by decide +kernel, rfl, by decide +kernel, by decide +kernel⟩

theorem ok_is_keepers_book (T : Tx K mg) : DefOk P w K mg base ct 64 "is_keepers_book" 5 F_is_keepers_book :=
  def_ok T.f_is_keepers_book sc_is_keepers_book rfl rfl (by decide) fun f cdv A outer s0 H E hr =>
    have nd := sc_is_keepers_book.nd
    (ss_cons (s_expr (pf_call0 hr ((ok_check_ratio_game T).mono (by omega)) (paf_cons (pf_v 0) (paf_cons (pf_v 1) (paf_cons (pf_v 2) (paf_cons (pf_v 3) paf_nil)))))) (ss_cons (s_if (PW.pt (pw_or' (pt_not' (pt_v (pf_isd T.b_isinstance T.b_dict (pf_v 4)))) (pw_or1' (pt_cmp' (of_ne hr.units) (PE.o (pf_lent T.b_len (pf_v 4))) (PE.o (pf_call0 hr ((ok_many_rows T).mono (by omega)) (paf_cons (pf_v 1) (paf_cons (pf_v 2) paf_nil)))) (nomark _))))) (ss_one (s_ret pf_bl)) ss_nil) (ss_cons (s_set 5 nd (pf_n (n_mk hr ((ok_Game___init__ T).mono (by omega)) (paf_cons (pf_v 0) (paf_cons (pf_v 1) (paf_cons (pf_v 2) paf_nil)))))) (ss_cons (s_own 6 nd (n_disp1T (hu_of hr) (pf_tup paf_nil) (pf_call00 hr ((ok_begin T).mono (by omega))))) (ss_cons (s_for (passes_of rfl) rfl (pi_seq (pf_call0 hr ((ok_rows_of T).mono (by omega)) (paf_cons (pf_v 1) (paf_cons (pf_v 2) paf_nil)))) (pg_n 7 nd) (ss_cons (s_set 8 nd (pf_ix (hu_of hr) (po_own 6) (PE.o (pf_sl (PE.o (pf_v 7)) part_none (part_some (pf_neg (PE.o pf_int))))))) (ss_cons (s_if (PW.pt (pw_or' (pt_cmp' (of_notIn (hu_of hr)) (PE.o (pf_v 7)) (PE.o (pf_v 4)) (by rfl)) (pw_or1' (pt_not' (pt_v (pf_call0 hr ((ok_may_stay T).mono (by omega)) (paf_cons (pf_fld 2 2 T.c2 (PE.o (pf_v 8))) (paf_cons (pf_v 0) (paf_cons (pf_ix (hu_of hr) (PE.o (pf_v 4)) (PE.o (pf_v 7))) paf_nil))))))))) (ss_one (s_ret pf_bl)) ss_nil) (ss_cons (s_put (hu_of hr) (pr_own 6) (pf_v 7) (pf_meth hr ((ok_Spot_behind T).mono (by omega)) (pf_v 8) (paf_cons (pf_ix (hu_of hr) (PE.o (pf_v 7)) (PE.o (pf_neg (PE.o pf_int)))) (paf_cons (pf_ix (hu_of hr) (PE.o (pf_v 4)) (PE.o (pf_v 7))) paf_nil)))) (ss_one (s_if (pt_v (pf_meth hr ((ok_Game_is_above T).mono (by omega)) (pf_v 5) (paf_cons (pf_ix (hu_of hr) (po_own 6) (PE.o (pf_v 7))) (paf_cons (pf_v 3) paf_nil)))) (ss_one (s_ret pf_bl)) ss_nil)))))) (ss_one (s_ret pf_bl)))))))

theorem sc__law_rows : FnScope ["_law_hours", "_law_size", "_law_found", "_law_edge", "_law_turn", "_law_later", "_law_row", "_law_more_here"] ["_law_hours", "_law_size"] (defScope (top 67)) := ⟨rfl, rfl, rfl, by decide +kernel, rfl, by decide +kernel, by decide +kernel⟩

theorem ok__law_rows (T : Tx K mg) : DefOk P w K mg base ct 1 "_law_rows" 2 F__law_rows :=
  def_ok T.f__law_rows sc__law_rows rfl rfl (by decide) fun f cdv A outer s0 H E hr =>
    have nd := sc__law_rows.nd
    (ss_cons (s_own 2 nd (n_lst paf_nil)) (ss_cons (s_set 3 nd (pf_lst (paf_cons (pf_tup paf_nil) paf_nil))) (ss_cons (s_for (passes_of rfl) rfl (pi_rng T.b_range (pf_v 0)) (pg_n 4 nd) (ss_cons (s_own 5 nd (n_lst paf_nil)) (ss_cons (s_for (passes_of rfl) rfl (pi_seq (pf_v 3)) (pg_n 6 nd) (ss_one (s_ext (pr_own 5) (pf_n (n_comp (own := [("_law_more_here", 7)]) (gt := (gName 7)) rfl nd (pi_rng2 T.b_range pf_int (pf_bin of_add (PE.o (pf_v 1)) (PE.o pf_int))) (blkOk_by rfl) (fun _ _ _ _ _ => (pg_n 7 nd)) (fun _ _ _ _ _ => ptsf_nil) (fun _ _ _ _ _ => (pf_bin of_add (PE.o (pf_v 6)) (PE.o (pf_tup (paf_cons (pf_v 7) paf_nil)))))))))) (ss_frz 5 (ss_cons (s_set 3 nd (pf_v 5)) (ss_one (s_ext (pr_own 2) (pf_v 3)))))))) (ss_frz 2 (ss_one (s_ret (pf_v 2)))))))

theorem sc__law_is_keepers : FnScope ["_law_game_here", "_law_ratio_here", "_law_thing", "_law_rows_here", "_law_stands", "_law_row", "_law_stay", "_law_begin", "_law_paid", "_law_begins"] ["_law_game_here", "_law_ratio_here", "_law_thing"] (defScope (top 68)) := ⟨rfl, rfl, rfl, by decide +kernel, rfl, by decide +kernel, by decide +kernel⟩

theorem ok__law_is_keepers (T : Tx K mg) : DefOk P w K mg base ct 3 "_law_is_keepers" 3 F__law_is_keepers :=
  def_ok T.f__law_is_keepers sc__law_is_keepers rfl rfl (by decide) fun f cdv A outer s0 H E hr =>
    have nd := sc__law_is_keepers.nd
    (ss_cons (s_set 3 nd (pf_call0 hr ((ok__law_rows T).mono (by omega)) (paf_cons (pf_ix (hu_of hr) (PE.o (pf_v 0)) (PE.o pf_int)) (paf_cons (pf_ix (hu_of hr) (PE.o (pf_v 0)) (PE.o pf_int)) paf_nil)))) (ss_cons (s_if (PW.pt (pw_or' (pt_not' (pt_v (pf_isd T.b_isinstance T.b_dict (pf_v 2)))) (pw_or' (pt_cmp' (of_ne hr.units) (PE.o (pf_lent T.b_len (pf_v 2))) (PE.o (pf_b1 cf_len T.b_len bb_len (PE.o (pf_v 3)))) (nomark _)) (pw_or1' (pt_not' (pt_v (pf_b1 (cf_all rfl) T.b_all bb_all (PE.o (pf_n (n_comp (own := [("_law_row", 5)]) (gt := (gName 5)) rfl nd (pi_seq (pf_v 3)) (blkOk_by rfl) (fun _ _ _ _ _ => (pg_n 5 nd)) (fun _ _ _ _ _ => ptsf_nil) (fun _ _ _ _ _ => (pf_cmp (of_in (hu_of hr)) (PE.o (pf_v 5)) (PE.o (pf_v 2)) (by rfl))))))))))))) (ss_one (s_ret pf_bl)) ss_nil) (ss_cons (s_own 4 nd (n_disp1T (hu_of hr) (pf_tup paf_nil) (pf_tup (paf_cons (pf_tup paf_nil) (paf_cons pf_int paf_nil))))) (ss_cons (s_for (passes_of rfl) rfl (pi_seq (pf_v 3)) (pg_n 5 nd) (ss_cons (s_asg (pf_ix (hu_of hr) (po_own 4) (PE.o (pf_sl (PE.o (pf_v 5)) part_none (part_some (pf_neg (PE.o pf_int)))))) (pg_t rfl (pgs_c (pg_n 9 nd) (pgs_c (pg_n 8 nd) pgs_n)))) (ss_cons (s_set 6 nd (pf_ix (hu_of hr) (PE.o (pf_v 2)) (PE.o (pf_v 5)))) (ss_cons (s_if (pt_not' (pt_v (pf_call0 hr ((ok__law_whole T).mono (by omega)) (paf_cons (pf_v 6) (paf_cons pf_int (paf_cons (pf_b2 (cf_min2 rfl) T.b_min bb_min (PE.o (pf_b1 cf_len T.b_len bb_len (PE.o (pf_v 9)))) (PE.o (pf_bin of_sub (PE.o (pf_ix (hu_of hr) (PE.o (pf_v 0)) (PE.o pf_int))) (PE.o pf_int)))) paf_nil)))))) (ss_one (s_ret pf_bl)) ss_nil) (ss_cons (s_set 7 nd (pf_if (pt_cmp' of_lt (PE.o (pf_v 6)) (PE.o (pf_b1 cf_len T.b_len bb_len (PE.o (pf_v 9)))) (nomark _)) (pf_ix (hu_of hr) (PE.o (pf_v 9)) (PE.o (pf_v 6))) (pf_bin of_sub (PE.o (pf_b1 cf_len T.b_len bb_len (PE.o (pf_v 5)))) (PE.o pf_int)))) (ss_cons (s_set 8 nd (pf_bin of_add (PE.o (pf_v 8)) (PE.o (pf_b1 (cf_sum rfl) T.b_sum bb_sum (PE.o (pf_sl (PE.o (pf_v 5)) (part_some (pf_v 7)) part_none)))))) (ss_cons (s_if (pt_cmp' of_gt (PE.o (pf_bin of_mul (PE.o (pf_v 8)) (PE.o (pf_ix (hu_of hr) (PE.o (pf_v 1)) (PE.o pf_int))))) (PE.o (pf_bin of_mul (PE.o (pf_ix (hu_of hr) (PE.o (pf_v 1)) (PE.o pf_int))) (PE.o (pf_call0 hr ((ok__law_due T).mono (by omega)) (paf_cons (pf_v 0) (paf_cons (pf_v 5) paf_nil)))))) (nomark _)) (ss_one (s_ret pf_bl)) ss_nil) (ss_one (s_put (hu_of hr) (pr_own 4) (pf_v 5) (pf_tup (paf_cons (pf_bin of_add (PE.o (pf_sl (PE.o (pf_v 9)) part_none (part_some (pf_v 6)))) (PE.o (pf_tup (paf_cons (pf_v 7) paf_nil)))) (paf_cons (pf_v 8) paf_nil)))))))))))) (ss_one (s_ret pf_bl))))))

theorem sc__law_right : FnScope ["_law_game_here", "_law_ratio_here", "_law_due_here", "_law_keepers", "_law_foes", "_law_most", "_law_hours", "_law_size", "_law_known"] ["_law_game_here", "_law_ratio_here", "_law_due_here"] (defScope (top 71)) := ⟨rfl, rfl, rfl, by decide +kernel, rfl, by decide +kernel, by decide +kernel⟩

theorem ok__law_right (T : Tx K mg) : DefOk P w K mg base ct 65 "_law_right" 3 F__law_right :=
  def_ok T.f__law_right sc__law_right rfl rfl (by decide) fun f cdv A outer s0 H E hr =>
    have nd := sc__law_right.nd
    (ss_cons (s_asg (pf_v 0) (pg_tl rfl (pgs_c (pg_n 5 nd) (pgs_c (pg_n 6 nd) (pgs_c (pg_n 7 nd) (pgs_c (pg_n 8 nd) pgs_n)))))) (ss_cons (s_set 3 nd (pf_call0 hr ((ok_keepers_book T).mono (by omega)) (paf_cons (pf_v 5) (paf_cons (pf_v 6) (paf_cons (pf_v 7) (paf_cons (pf_v 1) paf_nil)))))) (ss_cons (s_set 4 nd (pf_call0 hr ((ok_foes_book T).mono (by omega)) (paf_cons (pf_v 5) (paf_cons (pf_v 6) (paf_cons (pf_v 7) (paf_cons (pf_v 1) paf_nil)))))) (ss_cons (s_if (pt_v (pf_call0 hr ((ok__law_more T).mono (by omega)) (paf_cons (pf_v 2) (paf_cons (pf_v 1) paf_nil)))) (ss_cons (s_if (PW.pt (pw_or' (pt_notN (PE.o (pf_v 3))) (pw_or1' (pt_not' (pt_v (pf_call0 hr ((ok__law_is_foes T).mono (by omega)) (paf_cons (pf_v 0) (paf_cons (pf_v 1) (paf_cons (pf_v 4) paf_nil))))))))) (ss_one (s_ret pf_bl)) ss_nil) (ss_cons (s_if (pt_cmp' of_notB (PE.o (pf_call0 hr ((ok_is_foes_book T).mono (by omega)) (paf_cons (pf_v 5) (paf_cons (pf_v 6) (paf_cons (pf_v 7) (paf_cons (pf_v 1) (paf_cons (pf_v 4) paf_nil))))))) (PE.o pf_bl) (nomark _)) (ss_one (s_ret pf_bl)) ss_nil) (ss_cons (s_if (pt_cmp' of_notB (PE.o (pf_call0 hr ((ok_is_keepers_book T).mono (by omega)) (paf_cons (pf_v 5) (paf_cons (pf_v 6) (paf_cons (pf_v 7) (paf_cons (pf_v 1) (paf_cons (pf_v 4) paf_nil))))))) (PE.o pf_bl) (nomark _)) (ss_one (s_ret pf_bl)) ss_nil) (ss_cons (s_clr (pr_loc (pf_v 4))) (ss_one (s_ret (pf_call0 hr ((ok__law_is_foes T).mono (by omega)) (paf_cons (pf_v 0) (paf_cons (pf_v 1) (paf_cons (pf_call0 hr ((ok_foes_book T).mono (by omega)) (paf_cons (pf_v 5) (paf_cons (pf_v 6) (paf_cons (pf_v 7) (paf_cons (pf_v 1) paf_nil))))) paf_nil)))))))))) ss_nil) (ss_cons (s_if (PW.pt (pw_or' (pt_notN (PE.o (pf_v 4))) (pw_or1' (pt_not' (pt_v (pf_call0 hr ((ok__law_is_keepers T).mono (by omega)) (paf_cons (pf_v 0) (paf_cons (pf_v 1) (paf_cons (pf_v 3) paf_nil))))))))) (ss_one (s_ret pf_bl)) ss_nil) (ss_cons (s_if (pt_cmp' of_notB (PE.o (pf_call0 hr ((ok_is_keepers_book T).mono (by omega)) (paf_cons (pf_v 5) (paf_cons (pf_v 6) (paf_cons (pf_v 7) (paf_cons (pf_v 1) (paf_cons (pf_v 3) paf_nil))))))) (PE.o pf_bl) (nomark _)) (ss_one (s_ret pf_bl)) ss_nil) (ss_cons (s_if (pt_cmp' of_notB (PE.o (pf_call0 hr ((ok_is_foes_book T).mono (by omega)) (paf_cons (pf_v 5) (paf_cons (pf_v 6) (paf_cons (pf_v 7) (paf_cons (pf_v 1) (paf_cons (pf_v 3) paf_nil))))))) (PE.o pf_bl) (nomark _)) (ss_one (s_ret pf_bl)) ss_nil) (ss_cons (s_clr (pr_loc (pf_v 3))) (ss_one (s_ret (pf_call0 hr ((ok__law_is_keepers T).mono (by omega)) (paf_cons (pf_v 0) (paf_cons (pf_v 1) (paf_cons (pf_call0 hr ((ok_keepers_book T).mono (by omega)) (paf_cons (pf_v 5) (paf_cons (pf_v 6) (paf_cons (pf_v 7) (paf_cons (pf_v 1) paf_nil))))) paf_nil))))))))))))))

theorem sc__law_ratio : FnScope ["_law_hand_here", "_law_due_here", "_law_few", "_law_menu"] ["_law_hand_here", "_law_due_here"] (defScope (top 70)) := ⟨rfl, rfl, rfl, by decide +kernel, rfl, by decide +kernel, by decide +kernel⟩

theorem ok__law_ratio (T : Tx K mg) : DefOk P w K mg base ct 2 "_law_ratio" 2 F__law_ratio :=
  def_ok T.f__law_ratio sc__law_ratio rfl rfl (by decide) fun f cdv A outer s0 H E hr =>
    have nd := sc__law_ratio.nd
    (ss_cons (s_set 2 nd (pf_bin of_add (PE.o pf_int) (PE.o (pf_call0 hr ((ok__law_draw T).mono (by omega)) (paf_cons (pf_v 0) (paf_cons pf_int paf_nil)))))) (ss_cons (s_own 3 nd (n_lst (paf_cons (pf_v 1) (paf_cons (pf_v 1) (paf_cons (pf_tup (paf_cons (pf_bin of_sub (PE.o (pf_bin of_mul (PE.o (pf_ix (hu_of hr) (PE.o (pf_v 1)) (PE.o pf_int))) (PE.o (pf_v 2)))) (PE.o pf_int)) (paf_cons (pf_bin of_mul (PE.o (pf_ix (hu_of hr) (PE.o (pf_v 1)) (PE.o pf_int))) (PE.o (pf_v 2))) paf_nil))) (paf_cons (pf_tup (paf_cons (pf_bin of_add (PE.o (pf_bin of_mul (PE.o (pf_ix (hu_of hr) (PE.o (pf_v 1)) (PE.o pf_int))) (PE.o (pf_v 2)))) (PE.o pf_int)) (paf_cons (pf_bin of_mul (PE.o (pf_ix (hu_of hr) (PE.o (pf_v 1)) (PE.o pf_int))) (PE.o (pf_v 2))) paf_nil))) (paf_cons (pf_tup (paf_cons pf_int (paf_cons pf_int paf_nil))) (paf_cons (pf_tup (paf_cons pf_int (paf_cons pf_int paf_nil))) (paf_cons (pf_tup (paf_cons pf_int (paf_cons pf_int paf_nil))) paf_nil))))))))) (ss_cons (s_app (pr_own 3) (pf_tup (paf_cons (pf_bin of_add (PE.o pf_int) (PE.o (pf_call0 hr ((ok__law_draw T).mono (by omega)) (paf_cons (pf_v 0) (paf_cons pf_int paf_nil))))) (paf_cons (pf_bin of_add (PE.o pf_int) (PE.o (pf_call0 hr ((ok__law_draw T).mono (by omega)) (paf_cons (pf_v 0) (paf_cons pf_int paf_nil))))) paf_nil)))) (ss_one (s_ret (pf_call0 hr ((ok__law_lowest T).mono (by omega)) (paf_cons (pf_ix (hu_of hr) (PE.o (pf_bin of_add (po_own 3) (PE.o (pf_lst (paf_cons (pf_tup (paf_cons (pf_bin of_pow (PE.o pf_int) (PE.o pf_int)) (paf_cons pf_int paf_nil))) paf_nil))))) (PE.o (pf_call0 hr ((ok__law_draw T).mono (by omega)) (paf_cons (pf_v 0) (paf_cons pf_int paf_nil))))) paf_nil)))))))

theorem sc_law : FnScope ["_law_script", "_law_hand_here", "_law_game_here", "_law_due_here", "_law_turn"] ["_law_script"] (defScope (top 72)) := ⟨rfl, rfl, rfl, by decide +kernel, rfl, by decide +kernel, by decide +kernel⟩

theorem law_ok (T : Tx K mg) : ∃ (f : Addr) (fd : FuncData), mg ("law" : Str) = some (.ref f) ∧ (∀ (s : Shared) (u : Value), BindsTo s fd ⟨[u], []⟩ [("_law_script", u)]) ∧ ∀ base : Heap, K.In base → base.Ns mainGlobals mg → FnOk P w K mg base (L2.CX P w) 66 f fd ["_law_script"] (spF ⟨K, mg, ct⟩ 1 F_law) :=
  law_fn T.f_law sc_law rfl (by decide) fun base f cdv A outer s0 H E hr =>
    have nd := sc_law.nd
    (ss_cons (s_set 1 nd (pf_call0 hr ((ok__law_hand T).mono (by omega)) (paf_cons (pf_v 0) paf_nil))) (ss_cons (s_set 2 nd (pf_call0 hr ((ok__law_game T).mono (by omega)) (paf_cons (pf_v 1) paf_nil))) (ss_cons (s_set 3 nd (pf_call0 hr ((ok__law_surest T).mono (by omega)) (paf_cons (pf_v 2) paf_nil))) (ss_cons (s_for (passes_of rfl) rfl (pi_rng T.b_range (pf_if (pt_cmp' of_lt (PE.o (pf_bin of_mul (PE.o (pf_ix (hu_of hr) (PE.o (pf_v 2)) (PE.o pf_int))) (PE.o (pf_ix (hu_of hr) (PE.o (pf_v 2)) (PE.o pf_int))))) (PE.o pf_int) (nomark _)) pf_int pf_int)) (pg_n 4 nd) (ss_one (s_if (pt_not' (pt_v (pf_call0 hr ((ok__law_right T).mono (by omega)) (paf_cons (pf_v 2) (paf_cons (pf_call0 hr ((ok__law_ratio T).mono (by omega)) (paf_cons (pf_v 1) (paf_cons (pf_v 3) paf_nil))) (paf_cons (pf_v 3) paf_nil)))))) (ss_one (s_ret pf_bl)) ss_nil))) (ss_one (s_ret pf_bl))))))

end
end K82
open PySem PySem.W PyProof.Rows in
set_option maxRecDepth 100000 in
set_option maxHeartbeats 0 in
theorem PySem.Challenge.cw_joinshelf_k82_whole_books_just_one_holds : PySem.Challenge.rw_joinshelf_k82_whole_books_just_one.Holds := by
  w_on; o_law; k_head; (case hw => w_witness2)
  k_fill
  refine J.walk (l := PySem.Challenge.rw_joinshelf_k82_whole_books_just_one) (F := K82.F_law) (ct := K82.ct) (x := "_law_script") (k := 66) rfl (by decide) rfl ⟨rfl, by decide, by decide⟩ (fun w h Y => PySem.W.kIn_of Y) ?F K82.law_true
  case F =>
    intro w mg h KX G V
    refine K82.law_ok ?T
    refine' K82.Tx.mk
        (PySem.W.mg_none_of KX G ?z_abs)
        (PySem.W.mg_none_of KX G ?z_all)
        (PySem.W.mg_none_of KX G ?z_any)
        (PySem.W.mg_none_of KX G ?z_bool)
        (PySem.W.mg_none_of KX G ?z_dict)
        (PySem.W.mg_none_of KX G ?z_enumerate)
        (PySem.W.mg_none_of KX G ?z_int)
        (PySem.W.mg_none_of KX G ?z_isinstance)
        (PySem.W.mg_none_of KX G ?z_len)
        (PySem.W.mg_none_of KX G ?z_list)
        (PySem.W.mg_none_of KX G ?z_min)
        (PySem.W.mg_none_of KX G ?z_range)
        (PySem.W.mg_none_of KX G ?z_sum)
        (PySem.W.mg_none_of KX G ?z_tuple)
        (J.num_mk KX G ?n_MOST_HOURS_games)
        (J.num_mk KX G ?n_MOST_HOURS_tasks)
        (J.num_loose V.2 (by decide +kernel))
        (J.num_mk KX G ?n_MOST_ROWS)
        (J.num_mk KX G ?n_MOST_RUNS)
        (J.num_mk KX G ?n_MOST_SIZE)
        (J.clsX_mk KX G rfl ?aC0 ⟨?C0pg, ?C0hd, ?C0po, ?C0sa⟩ (by decide +kernel) (by decide) (J.no_cons ?no0_0 (J.no_cons ?no0_1 J.no_nil)))
        (J.clsX_mk KX G rfl ?aC1 ⟨?C1pg, ?C1hd, ?C1po, ?C1sa⟩ (by decide +kernel) (by decide) (J.no_cons ?no1_0 (J.no_cons ?no1_1 (J.no_cons ?no1_2 (J.no_cons ?no1_3 (J.no_cons ?no1_4 J.no_nil))))))
        (J.clsX_mk KX G rfl ?aC2 ⟨?C2pg, ?C2hd, ?C2po, ?C2sa⟩ (by decide +kernel) (by decide) (J.no_cons ?no2_0 (J.no_cons ?no2_1 (J.no_cons ?no2_2 (J.no_cons ?no2_3 J.no_nil)))))
        (J.clsX_mk KX G rfl ?aC3 ⟨?C3pg, ?C3hd, ?C3po, ?C3sa⟩ (by decide +kernel) (by decide) (J.no_cons ?no3_0 (J.no_cons ?no3_1 (J.no_cons ?no3_2 (J.no_cons ?no3_3 J.no_nil)))))
        (J.funX_mk KX G ?a0 ?l0 ?c0 ?k0 (fun _ _ _ _ _ _ us hl => match us, hl with | [_], _ => rfl))
        (J.funX_mk KX G ?a1 ?l1 ?c1 ?k1 (fun _ _ _ _ _ _ us hl => match us, hl with | [_, _], _ => rfl))
        (J.funX_mk KX G ?a2 ?l2 ?c2 ?k2 (fun _ _ _ _ _ _ us hl => match us, hl with | [_], _ => rfl))
        (J.funX_mk KX G ?a3 ?l3 ?c3 ?k3 (fun _ _ _ _ _ _ us hl => match us, hl with | [_, _], _ => rfl))
        (J.funX_mk KX G ?a4 ?l4 ?c4 ?k4 (fun _ _ _ _ _ _ us hl => match us, hl with | [_, _], _ => rfl))
        (J.funX_mk KX G ?a5 ?l5 ?c5 ?k5 (fun _ _ _ _ _ _ us hl => match us, hl with | [_, _], _ => rfl))
        (J.funX_mk KX G ?a6 ?l6 ?c6 ?k6 (fun _ _ _ _ _ _ us hl => match us, hl with | [_, _, _, _], _ => rfl))
        (J.funX_mk KX G ?a7 ?l7 ?c7 ?k7 (fun _ _ _ _ _ _ us hl => match us, hl with | [_, _, _, _], _ => rfl))
        (J.funX_mk KX G ?a8 ?l8 ?c8 ?k8 (fun _ _ _ _ _ _ us hl => match us, hl with | [_], _ => rfl))
        (J.funX_mk KX G ?a9 ?l9 ?c9 ?k9 (fun _ _ _ _ _ _ us hl => match us, hl with | [_], _ => rfl))
        (J.funX_mk KX G ?a10 ?l10 ?c10 ?k10 (fun _ _ _ _ _ _ us hl => match us, hl with | [_], _ => rfl))
        (J.funX_mk KX G ?a11 ?l11 ?c11 ?k11 (fun _ _ _ _ _ _ us hl => match us, hl with | [_, _, _], _ => rfl))
        (J.funX_mk KX G ?a12 ?l12 ?c12 ?k12 (fun _ _ _ _ _ _ us hl => match us, hl with | [_, _, _], _ => rfl))
        (J.funX_mk KX G ?a13 ?l13 ?c13 ?k13 (fun _ _ _ _ _ _ us hl => match us, hl with | [_, _, _], _ => rfl))
        (J.funX_mk KX G ?a14 ?l14 ?c14 ?k14 (fun _ _ _ _ _ _ us hl => match us, hl with | [_], _ => rfl))
        (J.funX_mk KX G ?a15 ?l15 ?c15 ?k15 (fun _ _ _ _ _ _ us hl => match us, hl with | [_, _], _ => rfl))
        (J.funX_mk KX G ?a16 ?l16 ?c16 ?k16 (fun _ _ _ _ _ _ us hl => match us, hl with | [_], _ => rfl))
        (J.funX_mk KX G ?a17 ?l17 ?c17 ?k17 (fun _ _ _ _ _ _ us hl => match us, hl with | [_, _], _ => rfl))
        (J.funX_mk KX G ?a18 ?l18 ?c18 ?k18 (fun _ _ _ _ _ _ us hl => match us, hl with | [_, _], _ => rfl))
        (J.funX_mk KX G ?a19 ?l19 ?c19 ?k19 (fun _ _ _ _ _ _ us hl => match us, hl with | [_, _, _, _], _ => rfl))
        (J.metX_mk KX G rfl ?b20 ⟨?D20pg, ?D20hd, ?D20po, ?D20sa⟩ (by decide +kernel) ?a20 ?i20 ?l20 ?c20 ?k20 (fun _ _ _ _ _ _ us hl => match us, hl with | [_, _, _], _ => rfl))
        (J.metX_mk KX G rfl ?b21 ⟨?D21pg, ?D21hd, ?D21po, ?D21sa⟩ (by decide +kernel) ?a21 ?i21 ?l21 ?c21 ?k21 (fun _ _ _ _ _ _ us hl => match us, hl with | [_, _], _ => rfl))
        (J.funX_mk KX G ?a22 ?l22 ?c22 ?k22 (fun _ _ _ _ _ _ us hl => match us, hl with | [_, _], _ => rfl))
        (J.funX_mk KX G ?a23 ?l23 ?c23 ?k23 (fun _ _ _ _ _ _ us hl => match us, hl with | [_, _], _ => rfl))
        (J.funX_mk KX G ?a24 ?l24 ?c24 ?k24 (fun _ _ _ _ _ _ us hl => match us, hl with | [_, _, _], _ => rfl))
        (J.iniX_mk KX G rfl ?b25 ?m25 ?kc25 ?a25 ?i25 ?l25 ?c25 ?k25 (fun _ _ _ _ _ _ us hl => match us, hl with | [_, _, _, _, _], _ => rfl))
        (J.metX_mk KX G rfl ?b26 ⟨?D26pg, ?D26hd, ?D26po, ?D26sa⟩ (by decide +kernel) ?a26 ?i26 ?l26 ?c26 ?k26 (fun _ _ _ _ _ _ us hl => match us, hl with | [_, _, _], _ => rfl))
        (J.metX_mk KX G rfl ?b27 ⟨?D27pg, ?D27hd, ?D27po, ?D27sa⟩ (by decide +kernel) ?a27 ?i27 ?l27 ?c27 ?k27 (fun _ _ _ _ _ _ us hl => match us, hl with | [_, _], _ => rfl))
        (J.metX_mk KX G rfl ?b28 ⟨?D28pg, ?D28hd, ?D28po, ?D28sa⟩ (by decide +kernel) ?a28 ?i28 ?l28 ?c28 ?k28 (fun _ _ _ _ _ _ us hl => match us, hl with | [_, _, _], _ => rfl))
        (J.metX_mk KX G rfl ?b29 ⟨?D29pg, ?D29hd, ?D29po, ?D29sa⟩ (by decide +kernel) ?a29 ?i29 ?l29 ?c29 ?k29 (fun _ _ _ _ _ _ us hl => match us, hl with | [_, _, _, _], _ => rfl))
        (J.metX_mk KX G rfl ?b30 ⟨?D30pg, ?D30hd, ?D30po, ?D30sa⟩ (by decide +kernel) ?a30 ?i30 ?l30 ?c30 ?k30 (fun _ _ _ _ _ _ us hl => match us, hl with | [_, _, _, _], _ => rfl))
        (J.funX_mk KX G ?a31 ?l31 ?c31 ?k31 (fun _ _ _ _ _ _ us hl => match us, hl with | [_, _], _ => rfl))
        (J.metX_mk KX G rfl ?b32 ⟨?D32pg, ?D32hd, ?D32po, ?D32sa⟩ (by decide +kernel) ?a32 ?i32 ?l32 ?c32 ?k32 (fun _ _ _ _ _ _ us hl => match us, hl with | [_, _, _, _], _ => rfl))
        (J.funX_mk KX G ?a33 ?l33 ?c33 ?k33 (fun _ _ _ _ _ _ us hl => match us, hl with | [_, _], _ => rfl))
        (J.funX_mk KX G ?a34 ?l34 ?c34 ?k34 (fun _ _ _ _ _ _ us hl => match us, hl with | [_, _, _], _ => rfl))
        (J.metX_mk KX G rfl ?b35 ⟨?D35pg, ?D35hd, ?D35po, ?D35sa⟩ (by decide +kernel) ?a35 ?i35 ?l35 ?c35 ?k35 (fun _ _ _ _ _ _ us hl => match us, hl with | [_, _, _, _], _ => rfl))
        (J.funX_mk KX G ?a36 ?l36 ?c36 ?k36 (fun _ _ _ _ _ _ us hl => match us, hl with | [_, _, _, _], _ => rfl))
        (J.metX_mk KX G rfl ?b37 ⟨?D37pg, ?D37hd, ?D37po, ?D37sa⟩ (by decide +kernel) ?a37 ?i37 ?l37 ?c37 ?k37 (fun _ _ _ _ _ _ us hl => match us, hl with | [_, _, _, _], _ => rfl))
        (J.metX_mk KX G rfl ?b38 ⟨?D38pg, ?D38hd, ?D38po, ?D38sa⟩ (by decide +kernel) ?a38 ?i38 ?l38 ?c38 ?k38 (fun _ _ _ _ _ _ us hl => match us, hl with | [_, _, _, _], _ => rfl))
        (J.metX_mk KX G rfl ?b39 ⟨?D39pg, ?D39hd, ?D39po, ?D39sa⟩ (by decide +kernel) ?a39 ?i39 ?l39 ?c39 ?k39 (fun _ _ _ _ _ _ us hl => match us, hl with | [_, _, _, _, _], _ => rfl))
        (J.metX_mk KX G rfl ?b40 ⟨?D40pg, ?D40hd, ?D40po, ?D40sa⟩ (by decide +kernel) ?a40 ?i40 ?l40 ?c40 ?k40 (fun _ _ _ _ _ _ us hl => match us, hl with | [_, _, _, _], _ => rfl))
        (J.iniX_mk KX G rfl ?b41 ?m41 ?kc41 ?a41 ?i41 ?l41 ?c41 ?k41 (fun _ _ _ _ _ _ us hl => match us, hl with | [_, _, _], _ => rfl))
        (J.funX_mk KX G ?a42 ?l42 ?c42 ?k42 (fun _ _ _ _ _ _ us hl => match us, hl with | [_], _ => rfl))
        (J.funX_mk KX G ?a43 ?l43 ?c43 ?k43 (fun _ _ _ _ _ _ us hl => match us, hl with | [_, _], _ => rfl))
        (J.funX_mk KX G ?a44 ?l44 ?c44 ?k44 (fun _ _ _ _ _ _ us hl => match us, hl with | [_, _, _, _], _ => rfl))
        (J.funX_mk KX G ?a45 ?l45 ?c45 ?k45 (fun _ _ _ _ _ _ us hl => match us, hl with | [_, _, _], _ => rfl))
        (J.iniX_mk KX G rfl ?b46 ?m46 ?kc46 ?a46 ?i46 ?l46 ?c46 ?k46 (fun _ _ _ _ _ _ us hl => match us, hl with | [_, _, _], _ => rfl))
        (J.funX_mk KX G ?a47 ?l47 ?c47 ?k47 (fun _ _ _ _ _ _ us hl => match us, hl with | [_, _], _ => rfl))
        (J.funX_mk KX G ?a48 ?l48 ?c48 ?k48 (fun _ _ _ _ _ _ us hl => match us, hl with | [_, _], _ => rfl))
        (J.funX_mk KX G ?a49 ?l49 ?c49 ?k49 (fun _ _ _ _ _ _ us hl => match us, hl with | [_, _], _ => rfl))
        (J.iniX_mk KX G rfl ?b50 ?m50 ?kc50 ?a50 ?i50 ?l50 ?c50 ?k50 (fun _ _ _ _ _ _ us hl => match us, hl with | [_, _, _, _], _ => rfl))
        (J.funX_mk KX G ?a51 ?l51 ?c51 ?k51 (fun _ _ _ _ _ _ us hl => match us, hl with | [], _ => rfl))
        (J.funX_mk KX G ?a52 ?l52 ?c52 ?k52 (fun _ _ _ _ _ _ us hl => match us, hl with | [_, _, _, _], _ => rfl))
        (J.metX_mk KX G rfl ?b53 ⟨?D53pg, ?D53hd, ?D53po, ?D53sa⟩ (by decide +kernel) ?a53 ?i53 ?l53 ?c53 ?k53 (fun _ _ _ _ _ _ us hl => match us, hl with | [_, _, _, _], _ => rfl))
        (J.funX_mk KX G ?a54 ?l54 ?c54 ?k54 (fun _ _ _ _ _ _ us hl => match us, hl with | [_, _, _, _], _ => rfl))
        (J.funX_mk KX G ?a55 ?l55 ?c55 ?k55 (fun _ _ _ _ _ _ us hl => match us, hl with | [_, _, _], _ => rfl))
        (J.funX_mk KX G ?a56 ?l56 ?c56 ?k56 (fun _ _ _ _ _ _ us hl => match us, hl with | [_, _, _], _ => rfl))
        (J.funX_mk KX G ?a57 ?l57 ?c57 ?k57 (fun _ _ _ _ _ _ us hl => match us, hl with | [_, _, _, _], _ => rfl))
        (J.funX_mk KX G ?a58 ?l58 ?c58 ?k58 (fun _ _ _ _ _ _ us hl => match us, hl with | [_, _, _, _, _], _ => rfl))
        (J.funX_mk KX G ?a59 ?l59 ?c59 ?k59 (fun _ _ _ _ _ _ us hl => match us, hl with | [_, _], _ => rfl))
        (J.funX_mk KX G ?a60 ?l60 ?c60 ?k60 (fun _ _ _ _ _ _ us hl => match us, hl with | [_, _, _], _ => rfl))
        (J.funX_mk KX G ?a61 ?l61 ?c61 ?k61 (fun _ _ _ _ _ _ us hl => match us, hl with | [_, _, _, _, _], _ => rfl))
        (J.funX_mk KX G ?a62 ?l62 ?c62 ?k62 (fun _ _ _ _ _ _ us hl => match us, hl with | [_, _], _ => rfl))
        (J.funX_mk KX G ?a63 ?l63 ?c63 ?k63 (fun _ _ _ _ _ _ us hl => match us, hl with | [_, _, _], _ => rfl))
        (J.funX_mk KX G ?a64 ?l64 ?c64 ?k64 (fun _ _ _ _ _ _ us hl => match us, hl with | [_, _, _], _ => rfl))
        (J.funX_mk KX G ?a65 ?l65 ?c65 ?k65 (fun _ _ _ _ _ _ us hl => match us, hl with | [_, _], _ => rfl))
        (J.funX_mk KX G ?a66 ?l66 ?c66 ?k66 (fun _ _ _ _ _ _ us hl => match us, hl with | [_], _ => rfl))
    (case z_abs => k_is)
    (case z_all => k_is)
    (case z_any => k_is)
    (case z_bool => k_is)
    (case z_dict => k_is)
    (case z_enumerate => k_is)
    (case z_int => k_is)
    (case z_isinstance => k_is)
    (case z_len => k_is)
    (case z_list => k_is)
    (case z_min => k_is)
    (case z_range => k_is)
    (case z_sum => k_is)
    (case z_tuple => k_is)
    (case n_MOST_HOURS_games => k_is)
    (case n_MOST_HOURS_tasks => k_is)
    (case n_MOST_ROWS => k_is)
    (case n_MOST_RUNS => k_is)
    (case n_MOST_SIZE => k_is)
    (case aC0 => k_is)
    (case C0pg => k_is)
    (case C0hd => k_is)
    (case C0po => k_is)
    (case C0sa => k_is)
    (case no0_1 => k_is)
    (case no0_0 => k_is)
    (case aC1 => k_is)
    (case C1pg => k_is)
    (case C1hd => k_is)
    (case C1po => k_is)
    (case C1sa => k_is)
    (case no1_4 => k_is)
    (case no1_3 => k_is)
    (case no1_2 => k_is)
    (case no1_1 => k_is)
    (case no1_0 => k_is)
    (case aC2 => k_is)
    (case C2pg => k_is)
    (case C2hd => k_is)
    (case C2po => k_is)
    (case C2sa => k_is)
    (case no2_3 => k_is)
    (case no2_2 => k_is)
    (case no2_1 => k_is)
    (case no2_0 => k_is)
    (case aC3 => k_is)
    (case C3pg => k_is)
    (case C3hd => k_is)
    (case C3po => k_is)
    (case C3sa => k_is)
    (case no3_3 => k_is)
    (case no3_2 => k_is)
    (case no3_1 => k_is)
    (case no3_0 => k_is)
    (case a0 => k_is)
    (case l0 => k_is)
    (case c0 => k_is)
    (case k0 => k_is)
    (case a1 => k_is)
    (case l1 => k_is)
    (case c1 => k_is)
    (case k1 => k_is)
    (case a2 => k_is)
    (case l2 => k_is)
    (case c2 => k_is)
    (case k2 => k_is)
    (case a3 => k_is)
    (case l3 => k_is)
    (case c3 => k_is)
    (case k3 => k_is)
    (case a4 => k_is)
    (case l4 => k_is)
    (case c4 => k_is)
    (case k4 => k_is)
    (case a5 => k_is)
    (case l5 => k_is)
    (case c5 => k_is)
    (case k5 => k_is)
    (case a6 => k_is)
    (case l6 => k_is)
    (case c6 => k_is)
    (case k6 => k_is)
    (case a7 => k_is)
    (case l7 => k_is)
    (case c7 => k_is)
    (case k7 => k_is)
    (case a8 => k_is)
    (case l8 => k_is)
    (case c8 => k_is)
    (case k8 => k_is)
    (case a9 => k_is)
    (case l9 => k_is)
    (case c9 => k_is)
    (case k9 => k_is)
    (case a10 => k_is)
    (case l10 => k_is)
    (case c10 => k_is)
    (case k10 => k_is)
    (case a11 => k_is)
    (case l11 => k_is)
    (case c11 => k_is)
    (case k11 => k_is)
    (case a12 => k_is)
    (case l12 => k_is)
    (case c12 => k_is)
    (case k12 => k_is)
    (case a13 => k_is)
    (case l13 => k_is)
    (case c13 => k_is)
    (case k13 => k_is)
    (case a14 => k_is)
    (case l14 => k_is)
    (case c14 => k_is)
    (case k14 => k_is)
    (case a15 => k_is)
    (case l15 => k_is)
    (case c15 => k_is)
    (case k15 => k_is)
    (case a16 => k_is)
    (case l16 => k_is)
    (case c16 => k_is)
    (case k16 => k_is)
    (case a17 => k_is)
    (case l17 => k_is)
    (case c17 => k_is)
    (case k17 => k_is)
    (case a18 => k_is)
    (case l18 => k_is)
    (case c18 => k_is)
    (case k18 => k_is)
    (case a19 => k_is)
    (case l19 => k_is)
    (case c19 => k_is)
    (case k19 => k_is)
    (case b20 => k_is)
    (case D20pg => k_is)
    (case D20hd => k_is)
    (case D20po => k_is)
    (case D20sa => k_is)
    (case a20 => k_is)
    (case i20 => k_is)
    (case l20 => k_is)
    (case c20 => k_is)
    (case k20 => k_is)
    (case b21 => k_is)
    (case D21pg => k_is)
    (case D21hd => k_is)
    (case D21po => k_is)
    (case D21sa => k_is)
    (case a21 => k_is)
    (case i21 => k_is)
    (case l21 => k_is)
    (case c21 => k_is)
    (case k21 => k_is)
    (case a22 => k_is)
    (case l22 => k_is)
    (case c22 => k_is)
    (case k22 => k_is)
    (case a23 => k_is)
    (case l23 => k_is)
    (case c23 => k_is)
    (case k23 => k_is)
    (case a24 => k_is)
    (case l24 => k_is)
    (case c24 => k_is)
    (case k24 => k_is)
    (case b25 => k_is)
    (case m25 => k_is)
    (case kc25 => k_is)
    (case a25 => k_is)
    (case i25 => k_is)
    (case l25 => k_is)
    (case c25 => k_is)
    (case k25 => k_is)
    (case b26 => k_is)
    (case D26pg => k_is)
    (case D26hd => k_is)
    (case D26po => k_is)
    (case D26sa => k_is)
    (case a26 => k_is)
    (case i26 => k_is)
    (case l26 => k_is)
    (case c26 => k_is)
    (case k26 => k_is)
    (case b27 => k_is)
    (case D27pg => k_is)
    (case D27hd => k_is)
    (case D27po => k_is)
    (case D27sa => k_is)
    (case a27 => k_is)
    (case i27 => k_is)
    (case l27 => k_is)
    (case c27 => k_is)
    (case k27 => k_is)
    (case b28 => k_is)
    (case D28pg => k_is)
    (case D28hd => k_is)
    (case D28po => k_is)
    (case D28sa => k_is)
    (case a28 => k_is)
    (case i28 => k_is)
    (case l28 => k_is)
    (case c28 => k_is)
    (case k28 => k_is)
    (case b29 => k_is)
    (case D29pg => k_is)
    (case D29hd => k_is)
    (case D29po => k_is)
    (case D29sa => k_is)
    (case a29 => k_is)
    (case i29 => k_is)
    (case l29 => k_is)
    (case c29 => k_is)
    (case k29 => k_is)
    (case b30 => k_is)
    (case D30pg => k_is)
    (case D30hd => k_is)
    (case D30po => k_is)
    (case D30sa => k_is)
    (case a30 => k_is)
    (case i30 => k_is)
    (case l30 => k_is)
    (case c30 => k_is)
    (case k30 => k_is)
    (case a31 => k_is)
    (case l31 => k_is)
    (case c31 => k_is)
    (case k31 => k_is)
    (case b32 => k_is)
    (case D32pg => k_is)
    (case D32hd => k_is)
    (case D32po => k_is)
    (case D32sa => k_is)
    (case a32 => k_is)
    (case i32 => k_is)
    (case l32 => k_is)
    (case c32 => k_is)
    (case k32 => k_is)
    (case a33 => k_is)
    (case l33 => k_is)
    (case c33 => k_is)
    (case k33 => k_is)
    (case a34 => k_is)
    (case l34 => k_is)
    (case c34 => k_is)
    (case k34 => k_is)
    (case b35 => k_is)
    (case D35pg => k_is)
    (case D35hd => k_is)
    (case D35po => k_is)
    (case D35sa => k_is)
    (case a35 => k_is)
    (case i35 => k_is)
    (case l35 => k_is)
    (case c35 => k_is)
    (case k35 => k_is)
    (case a36 => k_is)
    (case l36 => k_is)
    (case c36 => k_is)
    (case k36 => k_is)
    (case b37 => k_is)
    (case D37pg => k_is)
    (case D37hd => k_is)
    (case D37po => k_is)
    (case D37sa => k_is)
    (case a37 => k_is)
    (case i37 => k_is)
    (case l37 => k_is)
    (case c37 => k_is)
    (case k37 => k_is)
    (case b38 => k_is)
    (case D38pg => k_is)
    (case D38hd => k_is)
    (case D38po => k_is)
    (case D38sa => k_is)
    (case a38 => k_is)
    (case i38 => k_is)
    (case l38 => k_is)
    (case c38 => k_is)
    (case k38 => k_is)
    (case b39 => k_is)
    (case D39pg => k_is)
    (case D39hd => k_is)
    (case D39po => k_is)
    (case D39sa => k_is)
    (case a39 => k_is)
    (case i39 => k_is)
    (case l39 => k_is)
    (case c39 => k_is)
    (case k39 => k_is)
    (case b40 => k_is)
    (case D40pg => k_is)
    (case D40hd => k_is)
    (case D40po => k_is)
    (case D40sa => k_is)
    (case a40 => k_is)
    (case i40 => k_is)
    (case l40 => k_is)
    (case c40 => k_is)
    (case k40 => k_is)
    (case b41 => k_is)
    (case m41 => k_is)
    (case kc41 => k_is)
    (case a41 => k_is)
    (case i41 => k_is)
    (case l41 => k_is)
    (case c41 => k_is)
    (case k41 => k_is)
    (case a42 => k_is)
    (case l42 => k_is)
    (case c42 => k_is)
    (case k42 => k_is)
    (case a43 => k_is)
    (case l43 => k_is)
    (case c43 => k_is)
    (case k43 => k_is)
    (case a44 => k_is)
    (case l44 => k_is)
    (case c44 => k_is)
    (case k44 => k_is)
    (case a45 => k_is)
    (case l45 => k_is)
    (case c45 => k_is)
    (case k45 => k_is)
    (case b46 => k_is)
    (case m46 => k_is)
    (case kc46 => k_is)
    (case a46 => k_is)
    (case i46 => k_is)
    (case l46 => k_is)
    (case c46 => k_is)
    (case k46 => k_is)
    (case a47 => k_is)
    (case l47 => k_is)
    (case c47 => k_is)
    (case k47 => k_is)
    (case a48 => k_is)
    (case l48 => k_is)
    (case c48 => k_is)
    (case k48 => k_is)
    (case a49 => k_is)
    (case l49 => k_is)
    (case c49 => k_is)
    (case k49 => k_is)
    (case b50 => k_is)
    (case m50 => k_is)
    (case kc50 => k_is)
    (case a50 => k_is)
    (case i50 => k_is)
    (case l50 => k_is)
    (case c50 => k_is)
    (case k50 => k_is)
    (case a51 => k_is)
    (case l51 => k_is)
    (case c51 => k_is)
    (case k51 => k_is)
    (case a52 => k_is)
    (case l52 => k_is)
    (case c52 => k_is)
    (case k52 => k_is)
    (case b53 => k_is)
    (case D53pg => k_is)
    (case D53hd => k_is)
    (case D53po => k_is)
    (case D53sa => k_is)
    (case a53 => k_is)
    (case i53 => k_is)
    (case l53 => k_is)
    (case c53 => k_is)
    (case k53 => k_is)
    (case a54 => k_is)
    (case l54 => k_is)
    (case c54 => k_is)
    (case k54 => k_is)
    (case a55 => k_is)
    (case l55 => k_is)
    (case c55 => k_is)
    (case k55 => k_is)
    (case a56 => k_is)
    (case l56 => k_is)
    (case c56 => k_is)
    (case k56 => k_is)
    (case a57 => k_is)
    (case l57 => k_is)
    (case c57 => k_is)
    (case k57 => k_is)
    (case a58 => k_is)
    (case l58 => k_is)
    (case c58 => k_is)
    (case k58 => k_is)
    (case a59 => k_is)
    (case l59 => k_is)
    (case c59 => k_is)
    (case k59 => k_is)
    (case a60 => k_is)
    (case l60 => k_is)
    (case c60 => k_is)
    (case k60 => k_is)
    (case a61 => k_is)
    (case l61 => k_is)
    (case c61 => k_is)
    (case k61 => k_is)
    (case a62 => k_is)
    (case l62 => k_is)
    (case c62 => k_is)
    (case k62 => k_is)
    (case a63 => k_is)
    (case l63 => k_is)
    (case c63 => k_is)
    (case k63 => k_is)
    (case a64 => k_is)
    (case l64 => k_is)
    (case c64 => k_is)
    (case k64 => k_is)
    (case a65 => k_is)
    (case l65 => k_is)
    (case c65 => k_is)
    (case k65 => k_is)
    (case a66 => k_is)
    (case l66 => k_is)
    (case c66 => k_is)
    (case k66 => k_is)
