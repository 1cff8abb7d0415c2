import PyProof.Rows.All
import PySem.Str
import Wide.All
import OpenK.AllK
import Wide.FinOn
import HandS.ForMost
import HandS.ForExc
import HandS.IsInst
import KE.GoesEnum
import HandS.Small
import HandS.DictTup
import KE.KDictDisplayH
import KE.KDictCopyH
import HandS.Zip
import HandS.TupLe
import HandS.Style
import HandS.RaiseMore
import HandS.TryOnly
import PySem.Challenge.RW_joinshelf_k75_burdens_judged_and_spoiled
set_option Elab.async false
set_option linter.all false
set_option maxRecDepth 100000
set_option maxHeartbeats 4000000
namespace J
open PySem

abbrev Key := Sum Int Str

/-- data: trees; scr: the script, a list that is read alone; loc: a mutable cell by its number; fn: a def of the module, by its name; obj: an instance of the class with a number -/
inductive D where
  | non
  | bl (b : Bool)
  | int (i : Int)
  | str (x : Str)
  | tup (ds : List D)
  | lst (ds : List D)
  | dK (kvs : List (Key × D))
  | dT (kvs : List (List Key × D))
  | obj (c : Nat) (ds : List D)
  | loc (l : Nat)
  | fn (x : Str)
  | ty (n : String)
  | scr (ds : List D)
instance : Inhabited D := ⟨.non⟩

/-- a mutable cell -/
inductive Cell where
  | lst (ds : List D)
  | dK (kvs : List (Key × D))
  | dT (kvs : List (List Key × D))
  | ins (c : Nat) (ds : List D)

@[simp] def Cell.tree : Cell → D
  | .lst ds => .lst ds
  | .dK kvs => .dK kvs
  | .dT kvs => .dT kvs
  | .ins c ds => .obj c ds

/-- a slot: not known; a value; a cell of this frame's own -/
inductive Sl where
  | un
  | sh (d : D)
  | ow (c : Cell)

abbrev Mem := List Cell
abbrev Env := List Sl

inductive R (α : Type) where
  | ok (a : α) (m : Mem)
  | exc (c : Nat) (ds : List D) (m : Mem)
  | bad

@[simp] def R.bind {α β : Type} (r : R α) (f : α → Mem → R β) : R β :=
  match r with
  | .ok a m => f a m
  | .exc c ds m => .exc c ds m
  | .bad => .bad

/-- how a statement ends -/
inductive Fl where
  | nx | bk | ct
  | rt (d : D)
  | ex (c : Nat) (ds : List D)

def sizeMax : Nat := 16777216

abbrev CE := Env → Mem → R D
abbrev CT := Env → Mem → R Bool
abbrev CA := Env → Mem → R (List D)
abbrev CO := Env → Mem → R (Option Int)
abbrev CS := Env → Mem → R (Fl × Env)
abbrev Fn := List D → Mem → R D

@[simp] def ofO {α : Type} (o : Option α) (m : Mem) : R α := match o with | some a => .ok a m | none => .bad

/-! ### operations by value -/
mutual
def eqD : D → D → Bool
  | .non, .non => true
  | .bl a, .bl b => a == b
  | .bl a, .int j => (if a then 1 else 0) == j
  | .int i, .bl b => i == (if b then 1 else 0)
  | .int i, .int j => i == j
  | .str x, .str y => x == y
  | .lst xs, .lst ys => eqDs xs ys
  | .tup xs, .tup ys => eqDs xs ys
  | _, _ => false
def eqDs : List D → List D → Bool
  | [], [] => true
  | x :: xs, y :: ys => eqD x y && eqDs xs ys
  | _, _ => false
end
mutual
/-- plain data that is no deeper than n -/
def flatD : Nat → D → Bool
  | _, .non => true
  | _, .bl _ => true
  | _, .int _ => true
  | _, .str x => x.cps.all (· < 1114112)
  | n + 1, .lst xs => flatDs n xs
  | n + 1, .tup xs => flatDs n xs
  | _, _ => false
def flatDs : Nat → List D → Bool
  | _, [] => true
  | n, x :: xs => flatD n x && flatDs n xs
end
@[simp] def gAdd : D → D → Option D
  | .int a, .int b => some (.int (a + b))
  | .tup a, .tup b => if a.length + b.length ≤ sizeMax then some (.tup (a ++ b)) else none
  | .lst a, .lst b => if a.length + b.length ≤ sizeMax then some (.lst (a ++ b)) else none
  | _, _ => none
@[simp] def gSub : D → D → Option D
  | .int a, .int b => some (.int (a - b))
  | _, _ => none
def small64 (a : Int) : Bool := decide (-18446744073709551616 < a) && decide (a < 18446744073709551616)
def gMul : D → D → Option D
  | .int a, .int b => if small64 a || small64 b then some (.int (a * b)) else none
  | .tup a, .int b => if b.natAbs ≤ sizeMax ∧ a.length * b.toNat ≤ sizeMax then some (.tup (List.replicate b.toNat a).flatten) else none
  | .lst a, .int b => if b.natAbs ≤ sizeMax ∧ a.length * b.toNat ≤ sizeMax then some (.lst (List.replicate b.toNat a).flatten) else none
  | _, _ => none
def gMod : D → D → Option D
  | .int a, .int b => if 0 < b then some (.int (a % b)) else none
  | _, _ => none
def gDiv : D → D → Option D
  | .int a, .int b => if 0 < b ∧ b < 1073741824 then some (.int (a / b)) else none
  | _, _ => none
def gPow : D → D → Option D
  | .int a, .int b => if 0 ≤ b ∧ b ≤ 1000000 ∧ a.natAbs < 18446744073709551616 then some (.int (a ^ b.toNat)) else none
  | _, _ => none
@[simp] def gNeg : D → Option D
  | .int a => some (.int (-a))
  | _ => none
@[simp] def gLt : D → D → Option D
  | .int a, .int b => some (.bl (decide (a < b)))
  | _, _ => none
@[simp] def gLe : D → D → Option D
  | .int a, .int b => some (.bl (decide (a ≤ b)))
  | _, _ => none
@[simp] def gGt : D → D → Option D
  | .int a, .int b => some (.bl (decide (b < a)))
  | _, _ => none
@[simp] def gGe : D → D → Option D
  | .int a, .int b => some (.bl (decide (b ≤ a)))
  | _, _ => none
def gEq : D → D → Option D
  | .int a, .int b => some (.bl (decide (a = b)))
  | .str a, .str b => some (.bl (decide (a = b)))
  | a, b => if flatD 64 a && flatD 64 b then some (.bl (eqD a b)) else none
def gNe : D → D → Option D
  | .int a, .int b => some (.bl (!decide (a = b)))
  | .str a, .str b => some (.bl (!decide (a = b)))
  | a, b => if flatD 64 a && flatD 64 b then some (.bl (!eqD a b)) else none
@[simp] def isNon : D → Bool
  | .non => true
  | _ => false
@[simp] def gIsN (d : D) : Option D := some (.bl (isNon d))
@[simp] def gNotN (d : D) : Option D := some (.bl (!isNon d))
/-- x in a list or tuple of plain things -/
def flat1 : D → Bool
  | .non => true
  | .bl _ => true
  | .int _ => true
  | .str _ => true
  | _ => false
@[simp] def keyOf : D → Option Key
  | .int i => some (.inl i)
  | .str x => some (.inr x)
  | _ => none
def keysOf : List D → Option (List Key)
  | [] => some []
  | d :: ds => (keyOf d).bind fun k => (keysOf ds).bind fun ks => some (k :: ks)
def gIn : D → D → Option D
  | x, .tup ds => if flat1 x && ds.all flat1 then some (.bl (ds.any fun y => eqD y x)) else none
  | x, .lst ds => if flat1 x && ds.all flat1 then some (.bl (ds.any fun y => eqD y x)) else none
  | .int i, .dK kvs => some (.bl (kvs.any fun kv => decide (kv.1 = .inl i)))
  | .str i, .dK kvs => some (.bl (kvs.any fun kv => decide (kv.1 = .inr i)))
  | .tup ds, .dT kvs => (keysOf ds).map fun ks => .bl (kvs.any fun kv => decide (kv.1 = ks))
  | _, _ => none
@[simp] def gNot : D → Option D
  | .bl b => some (.bl (!b))
  | _ => none
def gNotIn (x y : D) : Option D := (gIn x y).bind gNot
def ixN (n : Nat) (i : Int) : Option Nat := if 0 ≤ i then (if i < n then some i.toNat else none) else if -(n : Int) ≤ i then some (i + n).toNat else none
def look {κ : Type} [DecidableEq κ] (kvs : List (κ × D)) (k : κ) : Option D := (kvs.find? fun kv => decide (kv.1 = k)).map (·.2)
def put {κ : Type} [DecidableEq κ] (kvs : List (κ × D)) (k : κ) (v : D) : List (κ × D) :=
  if (kvs.any fun kv => decide (kv.1 = k)) = true then kvs.map fun kv => if kv.1 = k then (kv.1, v) else kv else kvs ++ [(k, v)]
@[simp] def gIx : D → D → Option D
  | .tup ds, .int i => (ixN ds.length i).bind fun j => ds[j]?
  | .lst ds, .int i => (ixN ds.length i).bind fun j => ds[j]?
  | .dK kvs, k => (keyOf k).bind (look kvs)
  | .dT kvs, .tup ds => (keysOf ds).bind (look kvs)
  | _, _ => none
/-- a slice's end -/
def sIx (n d : Nat) : Option Int → Nat
  | none => d
  | some v => if v < 0 then (v + (n : Int)).toNat else min v.toNat n
def cutD (ds : List D) (lo hi : Option Int) : List D := (ds.drop (sIx ds.length 0 lo)).take (sIx ds.length ds.length hi - sIx ds.length 0 lo)
@[simp] def gSl (d : D) (lo hi : Option Int) : Option D := match d with
  | .tup ds => some (.tup (cutD ds lo hi))
  | .lst ds => some (.lst (cutD ds lo hi))
  | .scr ds => some (.lst (cutD ds lo hi))
  | _ => none
def intsD : List D → Option (List Int)
  | [] => some []
  | .int i :: ds => (intsD ds).map (i :: ·)
  | _ => none
def boolsD : List D → Option (List Bool)
  | [] => some []
  | .bl i :: ds => (boolsD ds).map (i :: ·)
  | _ => none
@[simp] def seq : D → Option (List D)
  | .lst ds => some ds
  | .tup ds => some ds
  | _ => none
@[simp] def gLen : D → Option D
  | .lst ds => some (.int ds.length)
  | .tup ds => some (.int ds.length)
  | .dK kvs => some (.int kvs.length)
  | _ => none
def gSum (d : D) : Option D := (seq d).bind fun ds => (intsD ds).map fun ns => .int ns.sum
def minL : List Int → Option Int
  | [] => none
  | n :: ns => some (ns.foldl min n)
def maxL : List Int → Option Int
  | [] => none
  | n :: ns => some (ns.foldl max n)
def gMin (d : D) : Option D := (seq d).bind fun ds => (intsD ds).bind fun ns => (minL ns).map .int
def gMax (d : D) : Option D := (seq d).bind fun ds => (intsD ds).bind fun ns => (maxL ns).map .int
@[simp] def gMin2 : D → D → Option D
  | .int a, .int b => some (.int (min a b))
  | _, _ => none
@[simp] def gMax2 : D → D → Option D
  | .int a, .int b => some (.int (max a b))
  | _, _ => none
def gAll : D → Option D
  | .lst ds => (boolsD ds).map fun bs => .bl (bs.all id)
  | _ => none
def gAny : D → Option D
  | .lst ds => (boolsD ds).map fun bs => .bl (bs.any id)
  | _ => none
@[simp] def gTuple (d : D) : Option D := (seq d).map .tup
@[simp] def gList (d : D) : Option D := (seq d).map .lst
@[simp] def gAbs : D → Option D
  | .int a => some (.int (if a < 0 then -a else a))
  | _ => none
@[simp] def gInt : D → Option D
  | .int a => some (.int a)
  | .bl b => some (.int (if b then 1 else 0))
  | _ => none
/-- a value's built-in type -/
def tyD : D → Option String
  | .non => some "NoneType"
  | .bl _ => some "bool"
  | .int _ => some "int"
  | .str _ => some "str"
  | .tup _ => some "tuple"
  | .lst _ => some "list"
  | .dK _ => some "dict"
  | _ => none
def subTy (a b : String) : Bool := a == b || (a == "bool" && b == "int")
/-- isinstance -/
def isI (n : String) (d : D) : Option Bool := (tyD d).map fun a => subTy a n
def gIsI (n : String) (d : D) : Option D := (isI n d).map .bl

/-! ### reading -/
/-- a value seen through its cell -/
def view (M : Mem) : D → D
  | .loc l => match M[l]? with | some c => c.tree | none => .non
  | d => d

@[simp] def cV (i : Nat) : CE := fun E M => match E[i]? with | some (.sh d) => .ok d M | _ => .bad
@[simp] def cC (d : D) : CE := fun _ M => .ok d M
/-- a frame's own cell, read -/
@[simp] def oV (i : Nat) : CE := fun E M => match E[i]? with | some (.ow c) => .ok c.tree M | _ => .bad

@[simp] def c1 (g : D → Option D) (f : CE) : CE := fun E M => (f E M).bind fun d M => ofO (g (view M d)) M
@[simp] def oNone : CO := fun _ M => .ok none M
@[simp] def oSome (f : CE) : CO := fun E M => (f E M).bind fun d M => match d with | .int i => .ok (some i) M | _ => .bad
/-- a slice -/
@[simp] def cSl (f : CE) (o1 o2 : CO) : CE := fun E M => (f E M).bind fun d M => (o1 E M).bind fun lo M => (o2 E M).bind fun hi M => ofO (gSl (view M d) lo hi) M
@[simp] def c2 (g : D → D → Option D) (f1 f2 : CE) : CE := fun E M => (f1 E M).bind fun d1 M => (f2 E M).bind fun d2 M => ofO (g (view M d1) (view M d2)) M
@[simp] def cIf (t : CT) (f1 f2 : CE) : CE := fun E M => (t E M).bind fun b M => if b = true then f1 E M else f2 E M
@[simp] def aNil : CA := fun _ M => .ok [] M
@[simp] def aCons (f : CE) (g : CA) : CA := fun E M => (f E M).bind fun d M => (g E M).bind fun ds M => .ok (d :: ds) M
@[simp] def cTup (g : CA) : CE := fun E M => (g E M).bind fun ds M => if ds.length ≤ sizeMax then .ok (.tup ds) M else .bad
@[simp] def cLst (g : CA) : CE := fun E M => (g E M).bind fun ds M => if ds.length ≤ sizeMax then .ok (.lst ds) M else .bad
/-- and, or as values (boolsD) -/
@[simp] def cAnd (f1 f2 : CE) : CE := fun E M => (f1 E M).bind fun d M => match d with | .bl b => if b = true then f2 E M else .ok (.bl false) M | _ => .bad
@[simp] def cOr (f1 f2 : CE) : CE := fun E M => (f1 E M).bind fun d M => match d with | .bl b => if b = true then .ok (.bl true) M else f2 E M | _ => .bad
@[simp] def cNot (f : CE) : CE := fun E M => (f E M).bind fun d M => match d with | .bl b => .ok (.bl (!b)) M | _ => .bad
/-- a < b < c -/
@[simp] def cCh (g1 g2 : D → D → Option D) (f1 f2 f3 : CE) : CE := fun E M => (f1 E M).bind fun d1 M => (f2 E M).bind fun d2 M => match g1 (view M d1) (view M d2) with
  | some (.bl b) => if b = true then (f3 E M).bind fun d3 M => ofO (g2 (view M d2) (view M d3)) M else .ok (.bl false) M
  | _ => .bad

/-! ### tests -/
@[simp] def tV (f : CE) : CT := fun E M => (f E M).bind fun d M => match d with | .bl b => .ok b M | _ => .bad
@[simp] def tAnd (t1 t2 : CT) : CT := fun E M => (t1 E M).bind fun b M => if b = true then t2 E M else .ok false M
@[simp] def tOr (t1 t2 : CT) : CT := fun E M => (t1 E M).bind fun b M => if b = true then .ok true M else t2 E M
@[simp] def tNot (t : CT) : CT := fun E M => (t E M).bind fun b M => .ok (!b) M
@[simp] def tYes : CT := fun _ M => .ok true M

/-! ### calls -/
@[simp] def cCall (F : Fn) (g : CA) : CE := fun E M => (g E M).bind fun ds M => F ds M
/-- nothing is raised -/
@[simp] def R.nox {α : Type} (r : R α) : R α := match r with | .exc _ _ _ => .bad | r => r
@[simp] def cCall0 (F : Fn) (g : CA) : CE := fun E M => (g E M).bind fun ds M => (F ds M).nox
/-- o.m(..), o an instance of the class c -/
@[simp] def cMeth (c : Nat) (F : Fn) (o : CE) (g : CA) : CE := fun E M => (o E M).bind fun d M => match view M d with
  | .obj c' _ => if c' = c then (g E M).bind fun ds M => (F (d :: ds) M).nox else .bad
  | _ => .bad
/-- o.f, by the field's place -/
@[simp] def gFld (c j : Nat) : D → Option D
  | .obj c' ds => if c' = c then ds[j]? else none
  | _ => none

/-! ### what is walked -/
@[simp] def items : D → Option (List D)
  | .lst ds => some ds
  | .tup ds => some ds
  | .scr ds => some ds
  | _ => none
def upFrom (a : Int) : Nat → List D
  | 0 => []
  | n + 1 => .int a :: upFrom (a + 1) n
@[simp] def iSeq (f : CE) : CA := fun E M => (f E M).bind fun d M => ofO (items d) M
@[simp] def iRng (f : CE) : CA := fun E M => (f E M).bind fun d M => match d with
  | .int n => if n.natAbs ≤ sizeMax then .ok (upFrom 0 n.toNat) M else .bad
  | _ => .bad
@[simp] def iRng2 (f1 f2 : CE) : CA := fun E M => (f1 E M).bind fun d1 M => (f2 E M).bind fun d2 M => match d1, d2 with
  | .int a, .int b => if a.natAbs ≤ sizeMax ∧ b.natAbs ≤ sizeMax ∧ (b - a).toNat ≤ sizeMax then .ok (upFrom a (b - a).toNat) M else .bad
  | _, _ => .bad
def pairUp : List D → List D → List D
  | a :: as, b :: bs => .tup [a, b] :: pairUp as bs
  | _, _ => []
@[simp] def iEnum (f : CE) : CA := fun E M => (f E M).bind fun d M => match items d with
  | some ds => .ok (pairUp (upFrom 0 ds.length) ds) M
  | none => .bad
@[simp] def iZip (f1 f2 : CE) : CA := fun E M => (f1 E M).bind fun d1 M => (f2 E M).bind fun d2 M => match items d1, items d2 with
  | some ds, some es => .ok (pairUp ds es) M
  | _, _ => .bad

/-! ### targets -/
abbrev CG := D → Env → Option Env
@[simp] def gN (i : Nat) : CG := fun d E => some (E.set i (.sh d))
@[simp] def gsN : List CG → List D → Env → Option Env
  | [], [], E => some E
  | g :: gs, d :: ds, E => (g d E).bind fun E => gsN gs ds E
  | _, _, _ => none
@[simp] def gT (gs : List CG) : CG := fun d E => match d with
  | .tup ds => gsN gs ds E
  | _ => none

/-! ### comprehensions -/
def wipe (E : Env) : List Nat → Env
  | [] => E
  | i :: r => (wipe E r).set i .un
def compL (vs : List Nat) (g : CG) (t : CT) (f : CE) : List D → CA
  | [], _, M => .ok [] M
  | d :: ds, E, M => match g d (wipe E vs) with
    | none => .bad
    | some E1 => (t E1 M).nox.bind fun b M => if b = true then (f E1 M).nox.bind fun x M => (compL vs g t f ds E M).bind fun xs M => .ok (x :: xs) M else compL vs g t f ds E M
@[simp] def aComp (vs : List Nat) (it : CA) (g : CG) (t : CT) (f : CE) : CA := fun E M => (it E M).bind fun ds M => compL vs g t f ds E M
@[simp] def cComp (vs : List Nat) (it : CA) (g : CG) (t : CT) (f : CE) : CE := fun E M => (aComp vs it g t f E M).bind fun ds M => .ok (.lst ds) M

/-! ### statements -/
/-- from an expression's end to a statement's -/
@[simp] def R.st (E : Env) (r : R D) (k : D → Mem → R (Fl × Env)) : R (Fl × Env) := match r with
  | .ok d M => k d M
  | .exc c ds M => .ok (.ex c ds, E) M
  | .bad => .bad
@[simp] def R.stB (E : Env) (r : R Bool) (k : Bool → Mem → R (Fl × Env)) : R (Fl × Env) := match r with
  | .ok d M => k d M
  | .exc c ds M => .ok (.ex c ds, E) M
  | .bad => .bad
@[simp] def R.stA (E : Env) (r : R (List D)) (k : List D → Mem → R (Fl × Env)) : R (Fl × Env) := match r with
  | .ok d M => k d M
  | .exc c ds M => .ok (.ex c ds, E) M
  | .bad => .bad
@[simp] def sSeq (s1 s2 : CS) : CS := fun E M => match s1 E M with
  | .ok (.nx, E) M => s2 E M
  | r => r
@[simp] def sNil : CS := fun E M => .ok (.nx, E) M
@[simp] def sAsg (g : CG) (f : CE) : CS := fun E M => (f E M).st E fun d M => match g d E with | some E => .ok (.nx, E) M | none => .bad
@[simp] def sExpr (f : CE) : CS := fun E M => (f E M).st E fun _ M => .ok (.nx, E) M
@[simp] def sRet (f : CE) : CS := fun E M => (f E M).st E fun d M => .ok (.rt d, E) M
@[simp] def sRetN : CS := fun E M => .ok (.rt .non, E) M
@[simp] def sIf (t : CT) (s1 s2 : CS) : CS := fun E M => (t E M).stB E fun b M => if b = true then s1 E M else s2 E M
@[simp] def sNever : CS := fun _ _ => .bad
@[simp] def sBreak : CS := fun E M => .ok (.bk, E) M
@[simp] def sCont : CS := fun E M => .ok (.ct, E) M
/-- a frame's own list is frozen -/
@[simp] def sFrz (i : Nat) : CS := fun E M => match E[i]? with
  | some (.ow c) => .ok (.nx, E.set i (.sh c.tree)) M
  | _ => .bad
def forL (g : CG) (s : CS) : List D → CS
  | [], E, M => .ok (.nx, E) M
  | d :: ds, E, M => match g d E with
    | none => .bad
    | some E => match s E M with
      | .ok (.nx, E) M => forL g s ds E M
      | .ok (.ct, E) M => forL g s ds E M
      | .ok (.bk, E) M => .ok (.nx, E) M
      | r => r
@[simp] def sFor (it : CA) (g : CG) (s : CS) : CS := fun E M => (it E M).stA E fun ds M => forL g s ds E M
def whileN (t : CT) (s : CS) : Nat → CS
  | 0, _, _ => .bad
  | n + 1, E, M => (t E M).stB E fun b M => if b = true then (match s E M with
      | .ok (.nx, E) M => whileN t s n E M
      | .ok (.ct, E) M => whileN t s n E M
      | .ok (.bk, E) M => .ok (.nx, E) M
      | r => r) else .ok (.nx, E) M

/-- a def's body as a function -/
@[simp] def body (n np : Nat) (s : CS) : Fn := fun ds M => if ds.length = np then (match s (ds.map Sl.sh ++ List.replicate (n - np) Sl.un) M with
  | .ok (.nx, _) M => .ok .non M
  | .ok (.rt d, _) M => .ok d M
  | .ok (.ex c ds, _) M => .exc c ds M
  | _ => .bad) else .bad
end J
namespace J
open PySem
mutual
def lowD (n : Nat) (d : D) : Bool := match d with
  | .loc l => decide (l < n)
  | .tup ds => lowDs n ds
  | .lst ds => lowDs n ds
  | .scr ds => lowDs n ds
  | .obj _ ds => lowDs n ds
  | .dK kvs => lowK n kvs
  | .dT kvs => lowT n kvs
  | _ => true
termination_by structural d
def lowDs (n : Nat) (ds : List D) : Bool := match ds with
  | [] => true
  | d :: ds => lowD n d && lowDs n ds
termination_by structural ds
def lowK (n : Nat) (ds : List (Key × D)) : Bool := match ds with
  | [] => true
  | p :: r => lowKP n p && lowK n r
termination_by structural ds
def lowKP (n : Nat) (p : Key × D) : Bool := match p with
  | (_, d) => lowD n d
termination_by structural p
def lowT (n : Nat) (ds : List (List Key × D)) : Bool := match ds with
  | [] => true
  | p :: r => lowTP n p && lowT n r
termination_by structural ds
def lowTP (n : Nat) (p : List Key × D) : Bool := match p with
  | (_, d) => lowD n d
termination_by structural p
end
mutual
def sameD (a b : D) : Bool := match a with
  | .non => match b with | .non => true | _ => false
  | .bl a => match b with | .bl b => a == b | _ => false
  | .int a => match b with | .int b => a == b | _ => false
  | .str a => match b with | .str b => decide (a = b) | _ => false
  | .tup a => match b with | .tup b => sameDs a b | _ => false
  | .lst a => match b with | .lst b => sameDs a b | _ => false
  | .scr a => match b with | .scr b => sameDs a b | _ => false
  | .dK a => match b with | .dK b => sameK a b | _ => false
  | .dT a => match b with | .dT b => sameT a b | _ => false
  | .obj c a => match b with | .obj d b => c == d && sameDs a b | _ => false
  | .loc a => match b with | .loc b => a == b | _ => false
  | .fn a => match b with | .fn b => decide (a = b) | _ => false
  | .ty a => match b with | .ty b => decide (a = b) | _ => false
termination_by structural a
def sameDs (a b : List D) : Bool := match a with
  | [] => match b with | [] => true | _ => false
  | a :: as => match b with | b :: bs => sameD a b && sameDs as bs | _ => false
termination_by structural a
def sameK (a b : List (Key × D)) : Bool := match a with
  | [] => match b with | [] => true | _ => false
  | a :: as => match b with | b :: bs => sameKP a b && sameK as bs | _ => false
termination_by structural a
def sameKP (a b : Key × D) : Bool := match a with
  | (k, a) => decide (k = b.1) && sameD a b.2
termination_by structural a
def sameT (a b : List (List Key × D)) : Bool := match a with
  | [] => match b with | [] => true | _ => false
  | a :: as => match b with | b :: bs => sameTP a b && sameT as bs | _ => false
termination_by structural a
def sameTP (a b : List Key × D) : Bool := match a with
  | (k, a) => decide (k = b.1) && sameD a b.2
termination_by structural a
end
mutual
theorem sameD_eq (a b : D) (h : sameD a b = true) : a = b := by
  cases a <;> cases b <;> first | rfl | (exact absurd h (by intro q; cases q)) | skip
  all_goals first | (rename_i x y; have h : (x == y) = true := h; rw [eq_of_beq h]; done) | (rename_i x y; have h : decide (x = y) = true := h; rw [of_decide_eq_true h]; done) | skip
  · rename_i x y; rw [sameDs_eq x y h]
  · rename_i x y; rw [sameDs_eq x y h]
  · rename_i x y; rw [sameK_eq x y h]
  · rename_i x y; rw [sameT_eq x y h]
  · rename_i c x d y
    have h : (c == d && sameDs x y) = true := h
    rw [Bool.and_eq_true] at h
    rw [eq_of_beq h.1, sameDs_eq x y h.2]
  · rename_i x y; rw [sameDs_eq x y h]
termination_by structural a
theorem sameDs_eq (a b : List D) (h : sameDs a b = true) : a = b := by
  cases a <;> cases b <;> first | rfl | (exact absurd h (by intro q; cases q)) | skip
  rename_i a as b bs
  have h : (sameD a b && sameDs as bs) = true := h
  rw [Bool.and_eq_true] at h
  rw [sameD_eq a b h.1, sameDs_eq as bs h.2]
termination_by structural a
theorem sameK_eq (a b : List (Key × D)) (h : sameK a b = true) : a = b := by
  cases a <;> cases b <;> first | rfl | (exact absurd h (by intro q; cases q)) | skip
  rename_i a as b bs
  have h : (sameKP a b && sameK as bs) = true := h
  rw [Bool.and_eq_true] at h
  rw [sameKP_eq a b h.1, sameK_eq as bs h.2]
termination_by structural a
theorem sameKP_eq (a b : Key × D) (h : sameKP a b = true) : a = b := by
  obtain ⟨k, a⟩ := a
  obtain ⟨l, b⟩ := b
  have h : (decide (k = l) && sameD a b) = true := h
  rw [Bool.and_eq_true] at h
  rw [of_decide_eq_true h.1, sameD_eq a b h.2]
termination_by structural a
theorem sameT_eq (a b : List (List Key × D)) (h : sameT a b = true) : a = b := by
  cases a <;> cases b <;> first | rfl | (exact absurd h (by intro q; cases q)) | skip
  rename_i a as b bs
  have h : (sameTP a b && sameT as bs) = true := h
  rw [Bool.and_eq_true] at h
  rw [sameTP_eq a b h.1, sameT_eq as bs h.2]
termination_by structural a
theorem sameTP_eq (a b : List Key × D) (h : sameTP a b = true) : a = b := by
  obtain ⟨k, a⟩ := a
  obtain ⟨l, b⟩ := b
  have h : (decide (k = l) && sameD a b) = true := h
  rw [Bool.and_eq_true] at h
  rw [of_decide_eq_true h.1, sameD_eq a b h.2]
termination_by structural a
end
mutual
theorem sameD_refl (a : D) : sameD a a = true := by
  cases a with
  | non => rfl
  | bl a => exact beq_self_eq_true a
  | int a => exact beq_self_eq_true a
  | str a => exact decide_eq_true rfl
  | tup a => exact sameDs_refl a
  | lst a => exact sameDs_refl a
  | scr a => exact sameDs_refl a
  | dK a => exact sameK_refl a
  | dT a => exact sameT_refl a
  | obj c a => show (c == c && sameDs a a) = true; rw [beq_self_eq_true, sameDs_refl a]; rfl
  | loc a => exact beq_self_eq_true a
  | fn a => exact decide_eq_true rfl
  | ty a => exact decide_eq_true rfl
termination_by structural a
theorem sameDs_refl (a : List D) : sameDs a a = true := by
  cases a with
  | nil => rfl
  | cons a as => show (sameD a a && sameDs as as) = true; rw [sameD_refl a, sameDs_refl as]; rfl
termination_by structural a
theorem sameK_refl (a : List (Key × D)) : sameK a a = true := by
  cases a with
  | nil => rfl
  | cons a as => show (sameKP a a && sameK as as) = true; rw [sameKP_refl a, sameK_refl as]; rfl
termination_by structural a
theorem sameKP_refl (a : Key × D) : sameKP a a = true := by
  obtain ⟨k, a⟩ := a
  show (decide (k = k) && sameD a a) = true
  rw [sameD_refl a, decide_eq_true rfl]; rfl
termination_by structural a
theorem sameT_refl (a : List (List Key × D)) : sameT a a = true := by
  cases a with
  | nil => rfl
  | cons a as => show (sameTP a a && sameT as as) = true; rw [sameTP_refl a, sameT_refl as]; rfl
termination_by structural a
theorem sameTP_refl (a : List Key × D) : sameTP a a = true := by
  obtain ⟨k, a⟩ := a
  show (decide (k = k) && sameD a a) = true
  rw [sameD_refl a, decide_eq_true rfl]; rfl
termination_by structural a
end
def lowC (n : Nat) (c : Cell) : Bool := lowD n c.tree
/-- cells that a call must leave fit: as they were, or low -/
def okM (n : Nat) : Mem → Mem → Bool
  | c :: M, c' :: M' => (sameD c.tree c'.tree || lowC n c') && okM n M M'
  | [], [] => true
  | _, _ => false
theorem okM_refl (n : Nat) : ∀ M : Mem, okM n M M = true
  | [] => rfl
  | c :: M => by
    show ((sameD c.tree c.tree || lowC n c) && okM n M M) = true
    rw [sameD_refl, okM_refl n M]; rfl
/-- the cells that are new within are forgotten -/
def scp (F : Fn) : Fn := fun ds M => match F ds M with
  | .ok d M' => if (lowD M.length d && okM M.length M (M'.take M.length)) = true then .ok d (M'.take M.length) else .bad
  | .exc c es M' => if (lowDs M.length es && okM M.length M (M'.take M.length)) = true then .exc c es (M'.take M.length) else .bad
  | .bad => .bad

end J
namespace J
open PySem PySem.Spec L2

/-- the ghost: cells' addresses, what is frozen -/
structure Wd where
  phi : List Addr
  Z : Addr → Prop

def isDict : HO → Bool
  | .dK _ => true
  | .dT _ => true
  | _ => false

/-- the module: its written part, its names, its classes' names with their fields in order -/
structure Gm where
  K : PySem.W.Frag
  mg : Str → Option Value
  ct : List (Str × List Str)
section
variable (G : Gm)

def KList (a : Addr) (xs : List V) : Prop :=
    ∃ (o : Obj) (its : Array Value) (n : Nat), G.K.lookup a = some o ∧ o.cls = .type "list" ∧ o.dict = none ∧ o.data = .seq its n ∧ its.size ≤ sizeLine ∧ Vals xs its.toList

mutual
inductive Rep (W : Wd) (H : Hp) : D → V → Prop
  | non : Rep W H .non .non
  | bl (b : Bool) : Rep W H (.bl b) (.bl b)
  | int (i : Int) : Rep W H (.int i) (.int i)
  | str (x : Str) : Rep W H (.str x) (.str x)
  | tup {a : Addr} {vs : List V} {ds : List D} (h : H a = some (.tup vs)) (r : Reps W H ds vs) : Rep W H (.tup ds) (.ref a)
  | lst {a : Addr} {vs : List V} {ds : List D} (z : W.Z a) (h : H a = some (.lst vs)) (r : Reps W H ds vs) : Rep W H (.lst ds) (.ref a)
  | scr {a : Addr} {vs : List V} {ds : List D} (h : (∃ o, H a = some (.frz o (.lst vs))) ∨ KList G a vs) (r : Reps W H ds vs) : Rep W H (.scr ds) (.ref a)
  | dK {a : Addr} {vs : List (Key × V)} {ds : List (Key × D)} (z : W.Z a) (h : Rd H a (.dK vs)) (k : vs.map (·.1) = ds.map (·.1)) (r : Reps W H (ds.map (·.2)) (vs.map (·.2))) : Rep W H (.dK ds) (.ref a)
  | dT {a : Addr} {vs : List (List Key × V)} {ds : List (List Key × D)} (z : W.Z a) (h : Rd H a (.dT vs)) (k : vs.map (·.1) = ds.map (·.1)) (r : Reps W H (ds.map (·.2)) (vs.map (·.2))) : Rep W H (.dT ds) (.ref a)
  | obj {a C dx : Addr} {c : Nat} {nm : Str} {ns : List Str} {vs : List (Str × V)} {ds : List D} (z : W.Z a) (ht : G.ct[c]? = some (nm, ns)) (hc : G.mg nm = some (.ref C)) (h : H a = some (.ins C dx vs)) (k : vs.map (·.1) = ns.take ds.length) (r : Reps W H ds (vs.map (·.2))) : Rep W H (.obj c ds) (.ref a)
  | loc {a : Addr} {l : Nat} (h : W.phi[l]? = some a) : Rep W H (.loc l) (.ref a)
  | fn {a : Addr} {x : Str} (h : G.mg x = some (.ref a)) : Rep W H (.fn x) (.ref a)
  | ty (n : String) : Rep W H (.ty n) (.ty n)
inductive Reps (W : Wd) (H : Hp) : List D → List V → Prop
  | nil : Reps W H [] []
  | cons {d : D} {ds : List D} {v : V} {vs : List V} (h : Rep W H d v) (t : Reps W H ds vs) : Reps W H (d :: ds) (v :: vs)
end

/-- what stands at a cell's address -/
def CellOk (W : Wd) (H : Hp) (a : Addr) : Cell → Prop
  | .lst ds => ∃ vs, H a = some (.lst vs) ∧ Reps G W H ds vs
  | .dK ds => ∃ vs : List (Key × V), H a = some (.dK vs) ∧ vs.map (·.1) = ds.map (·.1) ∧ Reps G W H (ds.map (·.2)) (vs.map (·.2))
  | .dT ds => ∃ vs : List (List Key × V), H a = some (.dT vs) ∧ vs.map (·.1) = ds.map (·.1) ∧ Reps G W H (ds.map (·.2)) (vs.map (·.2))
  | .ins c ds => ∃ nm ns C dx, ∃ vs : List (Str × V), G.ct[c]? = some (nm, ns) ∧ G.mg nm = some (.ref C) ∧ H a = some (.ins C dx vs) ∧ vs.map (·.1) = ns.take ds.length ∧ Reps G W H ds (vs.map (·.2))

/-- values persist -/
structure ExtV (W : Wd) (H : Hp) (W' : Wd) (H' : Hp) : Prop where
  ph : ∃ more, W'.phi = W.phi ++ more
  z : ∀ a, W.Z a → W'.Z a
  rd : ∀ a u, W.Z a → isDict u = true → Rd H a u → Rd H' a u
  ls : ∀ a vs, W.Z a → H a = some (.lst vs) → H' a = some (.lst vs)
  fz : ∀ a o vs, H a = some (.frz o (.lst vs)) → H' a = some (.frz o (.lst vs))
  tp : ∀ a xs, H a = some (.tup xs) → H' a = some (.tup xs)
  ob : ∀ a C dx fs, W.Z a → H a = some (.ins C dx fs) → H' a = some (.ins C dx fs)
/-- .. and what is locked stays so -/
structure Ext0 (W : Wd) (H : Hp) (W' : Wd) (H' : Hp) : Prop extends ExtV W H W' H' where
  fd : ∀ a o u, H a = some (.frz o u) → H' a = some (.frz o u)
/-- .. and nothing that is another's is touched -/
structure Ext (W : Wd) (H : Hp) (W' : Wd) (H' : Hp) : Prop extends Ext0 W H W' H' where
  fr : ∀ a, a ∈ W'.phi → a ∈ W.phi ∨ H a = none
  zn : ∀ a, W'.Z a → W.Z a ∨ H a = none
  keep : ∀ a o, H a = some o → a ∉ W.phi → ¬ W.Z a → H' a = some o

/-- the cells stand -/
structure CRel (W : Wd) (H : Hp) (M : Mem) : Prop where
  len : W.phi.length = M.length
  cel : ∀ (l : Nat) c a, M[l]? = some c → W.phi[l]? = some a → CellOk G W H a c
  nd : W.phi.Nodup
  sep : ∀ a ∈ W.phi, ¬ W.Z a
  zs : ∀ a, W.Z a → ∃ o, H a = some o

def SlOk (W : Wd) (H H0 : Hp) (σ : L2.St) (i : Nat) : Sl → Prop
  | .un => True
  | .sh d => ∃ v, σ[i]? = some (some v) ∧ Rep G W H d v
  | .ow c => ∃ a, σ[i]? = some (some (.ref a)) ∧ CellOk G W H a c ∧ a ∉ W.phi ∧ ¬ W.Z a ∧ H0 a = none

structure Rel (W0 : Wd) (H0 : Hp) (W : Wd) (σ : L2.St) (H : Hp) (E : Env) (M : Mem) : Prop extends CRel G W H M where
  ext : Ext W0 H0 W H
  slt : ∀ (i : Nat) s, E[i]? = some s → SlOk G W H H0 σ i s
  sz : E.length = σ.length
  own : ∀ (i j : Nat) c c' a, E[i]? = some (.ow c) → E[j]? = some (.ow c') → σ[i]? = some (some (.ref a)) → σ[j]? = some (some (.ref a)) → i = j
end

section
variable {G : Gm} {W W' W0 W1 : Wd} {H H' H0 H1 : Hp} {σ : L2.St} {E : Env} {M M' : Mem}

theorem Reps.length : ∀ {ds : List D} {vs : List V}, Reps G W H ds vs → ds.length = vs.length
  | _, _, .nil => rfl
  | _, _, .cons _ t => by rw [List.length_cons, List.length_cons, Reps.length t]
theorem Reps.append : ∀ {ds es : List D} {vs us : List V}, Reps G W H ds vs → Reps G W H es us → Reps G W H (ds ++ es) (vs ++ us)
  | _, _, _, _, .nil, r => r
  | _, _, _, _, .cons h t, r => .cons h (Reps.append t r)
theorem Reps.get : ∀ {ds : List D} {vs : List V} {i : Nat} {d : D}, Reps G W H ds vs → ds[i]? = some d → ∃ v, vs[i]? = some v ∧ Rep G W H d v
  | _, _, _, _, .nil, e => by simp at e
  | _, _, 0, _, .cons h t, e => by simp at e; subst e; exact ⟨_, by simp, h⟩
  | _, _, i + 1, _, .cons h t, e => by
    obtain ⟨v, h1, h2⟩ := Reps.get (i := i) t (by simpa using e)
    exact ⟨v, by simpa using h1, h2⟩
theorem Reps.getV : ∀ {ds : List D} {vs : List V} {i : Nat} {v : V}, Reps G W H ds vs → vs[i]? = some v → ∃ d, ds[i]? = some d ∧ Rep G W H d v
  | _, _, _, _, .nil, e => by simp at e
  | _, _, 0, _, .cons h t, e => by simp at e; subst e; exact ⟨_, by simp, h⟩
  | _, _, i + 1, _, .cons h t, e => by
    obtain ⟨v, h1, h2⟩ := Reps.getV (i := i) t (by simpa using e)
    exact ⟨v, by simpa using h1, h2⟩
theorem Reps.take : ∀ {ds : List D} {vs : List V} (n : Nat), Reps G W H ds vs → Reps G W H (ds.take n) (vs.take n)
  | _, _, 0, _ => by simp; exact .nil
  | _, _, n + 1, .nil => .nil
  | _, _, n + 1, .cons h t => .cons h (Reps.take n t)
theorem Reps.drop : ∀ {ds : List D} {vs : List V} (n : Nat), Reps G W H ds vs → Reps G W H (ds.drop n) (vs.drop n)
  | _, _, 0, r => r
  | _, _, n + 1, .nil => .nil
  | _, _, n + 1, .cons h t => Reps.drop n t
theorem Reps.set {d : D} {v : V} (r : Rep G W H d v) : ∀ {ds : List D} {vs : List V} (i : Nat), Reps G W H ds vs → Reps G W H (ds.set i d) (vs.set i v)
  | _, _, _, .nil => .nil
  | _, _, 0, .cons _ t => .cons r t
  | _, _, i + 1, .cons h t => .cons h (Reps.set r i t)
theorem Reps.one {d : D} {v : V} (r : Rep G W H d v) : Reps G W H [d] [v] := .cons r .nil

mutual
theorem Rep.monoV (x : ExtV W H W' H') : ∀ {d : D} {v : V}, Rep G W H d v → Rep G W' H' d v
  | _, _, .non => .non
  | _, _, .bl b => .bl b
  | _, _, .int i => .int i
  | _, _, .str s => .str s
  | _, _, .tup h r => .tup (x.tp _ _ h) (Reps.monoV x r)
  | _, _, .lst z h r => .lst (x.z _ z) (x.ls _ _ z h) (Reps.monoV x r)
  | _, _, .scr h r => .scr (h.imp (fun ⟨o, q⟩ => ⟨o, x.fz _ _ _ q⟩) id) (Reps.monoV x r)
  | _, _, .dK z h k r => .dK (x.z _ z) (x.rd _ _ z rfl h) k (Reps.monoV x r)
  | _, _, .dT z h k r => .dT (x.z _ z) (x.rd _ _ z rfl h) k (Reps.monoV x r)
  | _, _, .obj z t c h k r => .obj (x.z _ z) t c (x.ob _ _ _ _ z h) k (Reps.monoV x r)
  | _, _, .loc h => .loc (by obtain ⟨more, e⟩ := x.ph; rw [e, List.getElem?_append_left (List.getElem?_eq_some_iff.mp h).1]; exact h)
  | _, _, .fn h => .fn h
  | _, _, .ty n => .ty n
theorem Reps.monoV (x : ExtV W H W' H') : ∀ {ds : List D} {vs : List V}, Reps G W H ds vs → Reps G W' H' ds vs
  | _, _, .nil => .nil
  | _, _, .cons h t => .cons (Rep.monoV x h) (Reps.monoV x t)
end
theorem Rep.mono {d : D} {v : V} (x : Ext0 W H W' H') (h : Rep G W H d v) : Rep G W' H' d v := h.monoV x.toExtV
theorem Reps.mono {ds : List D} {vs : List V} (x : Ext0 W H W' H') (h : Reps G W H ds vs) : Reps G W' H' ds vs := h.monoV x.toExtV

theorem Ext0.refl : Ext0 W H W H := ⟨⟨⟨[], by simp⟩, fun _ z => z, fun _ _ _ _ h => h, fun _ _ _ h => h, fun _ _ _ h => h, fun _ _ h => h, fun _ _ _ _ _ h => h⟩, fun _ _ _ h => h⟩
theorem Ext0.trans (a : Ext0 W H W1 H1) (b : Ext0 W1 H1 W' H') : Ext0 W H W' H' := by
  obtain ⟨m1, e1⟩ := a.ph
  obtain ⟨m2, e2⟩ := b.ph
  exact ⟨⟨⟨m1 ++ m2, by rw [e2, e1, List.append_assoc]⟩, fun p z => b.z p (a.z p z), fun p u z f r => b.rd p u (a.z p z) f (a.rd p u z f r), fun p vs z h => b.ls p vs (a.z p z) (a.ls p vs z h), fun p o vs h => b.fz p o vs (a.fz p o vs h), fun p xs h => b.tp p xs (a.tp p xs h), fun p C dx fs z h => b.ob p C dx fs (a.z p z) (a.ob p C dx fs z h)⟩, fun p o u h => b.fd p o u (a.fd p o u h)⟩
theorem Ext.refl : Ext W H W H := ⟨Ext0.refl, fun _ h => .inl h, fun _ h => .inl h, fun _ _ h _ _ => h⟩

theorem CellOk.isS {a : Addr} {c : Cell} (h : CellOk G W H a c) : ∃ o, H a = some o := by
  cases c with
  | lst ds => obtain ⟨vs, e, _⟩ := h; exact ⟨_, e⟩
  | dK ds => obtain ⟨vs, e, _⟩ := h; exact ⟨_, e⟩
  | dT ds => obtain ⟨vs, e, _⟩ := h; exact ⟨_, e⟩
  | ins c ds => obtain ⟨nm, ns, C, dx, vs, _, _, e, _⟩ := h; exact ⟨_, e⟩
theorem CellOk.notup {a : Addr} {c : Cell} (h : CellOk G W H a c) (xs : List V) : H a ≠ some (.tup xs) := by
  intro q
  cases c with
  | lst ds => obtain ⟨vs, e, _⟩ := h; rw [e] at q; cases q
  | dK ds => obtain ⟨vs, e, _⟩ := h; rw [e] at q; cases q
  | dT ds => obtain ⟨vs, e, _⟩ := h; rw [e] at q; cases q
  | ins c ds => obtain ⟨nm, ns, C, dx, vs, _, _, e, _⟩ := h; rw [e] at q; cases q
theorem CellOk.monoV {a : Addr} {c : Cell} (x : ExtV W H W' H') (e : ∀ o, H a = some o → H' a = some o) (h : CellOk G W H a c) : CellOk G W' H' a c := by
  cases c with
  | lst ds => obtain ⟨vs, q, r⟩ := h; exact ⟨vs, e _ q, r.monoV x⟩
  | dK ds => obtain ⟨vs, q, k, r⟩ := h; exact ⟨vs, e _ q, k, r.monoV x⟩
  | dT ds => obtain ⟨vs, q, k, r⟩ := h; exact ⟨vs, e _ q, k, r.monoV x⟩
  | ins c ds => obtain ⟨nm, ns, C, dx, vs, ht, hc, q, k, r⟩ := h; exact ⟨nm, ns, C, dx, vs, ht, hc, e _ q, k, r.monoV x⟩
theorem CellOk.mono {a : Addr} {c : Cell} (x : Ext0 W H W' H') (e : ∀ o, H a = some o → H' a = some o) (h : CellOk G W H a c) : CellOk G W' H' a c := h.monoV x.toExtV e

/-- a cell's address is tracked -/
theorem CRel.isS (c : CRel G W H M) {a : Addr} (h : a ∈ W.phi) : ∃ o, H a = some o := by
  obtain ⟨l, hl, e⟩ := List.getElem_of_mem h
  have hl' : l < M.length := by rw [← c.len]; exact hl
  exact (c.cel l M[l] a (List.getElem?_eq_getElem hl') (by rw [List.getElem?_eq_getElem hl, e])).isS
theorem CRel.notup (c : CRel G W H M) {a : Addr} {xs : List V} (h : H a = some (.tup xs)) : a ∉ W.phi := fun hm => by
  obtain ⟨l, hl, e⟩ := List.getElem_of_mem hm
  have hl' : l < M.length := by rw [← c.len]; exact hl
  exact (c.cel l M[l] a (List.getElem?_eq_getElem hl') (by rw [List.getElem?_eq_getElem hl, e])).notup xs h
/-- what is new now was new then -/
theorem CRel.was (c : CRel G W H M) (x : Ext W0 H0 W H) {p : Addr} (h : H p = none) : H0 p = none := by
  cases q : H0 p with
  | none => rfl
  | some o =>
    exfalso
    by_cases h1 : p ∈ W0.phi
    · obtain ⟨more, e⟩ := x.ph
      obtain ⟨o', q'⟩ := c.isS (a := p) (by rw [e]; exact List.mem_append_left _ h1)
      rw [h] at q'; cases q'
    · by_cases h2 : W0.Z p
      · obtain ⟨o', q'⟩ := c.zs p (x.z p h2)
        rw [h] at q'; cases q'
      · rw [x.keep p o q h1 h2] at h; cases h
theorem Ext.trans (c : CRel G W1 H1 M) (a : Ext W H W1 H1) (b : Ext W1 H1 W' H') : Ext W H W' H' := by
  refine ⟨a.toExt0.trans b.toExt0, fun p hp => ?_, fun p hp => ?_, fun p o h1 h2 h3 => ?_⟩
  · rcases b.fr p hp with q | q
    · exact a.fr p q
    · exact .inr (c.was a q)
  · rcases b.zn p hp with q | q
    · exact a.zn p q
    · exact .inr (c.was a q)
  · refine b.keep p o (a.keep p o h1 h2 h3) (fun q => ?_) (fun q => ?_)
    · rcases a.fr p q with z | z
      · exact h2 z
      · rw [h1] at z; cases z
    · rcases a.zn p q with z | z
      · exact h3 z
      · rw [h1] at z; cases z

/-- behind an expression or a call: the slots stand -/
theorem Rel.after (r : Rel G W0 H0 W σ H E M) (x : Ext W H W' H') (c : CRel G W' H' M') : Rel G W0 H0 W' σ H' E M' := by
  refine ⟨c, Ext.trans r.toCRel r.ext x, fun i s hs => ?_, r.sz, r.own⟩
  have q := r.slt i s hs
  cases s with
  | un => exact True.intro
  | sh d => obtain ⟨v, e, h⟩ := q; exact ⟨v, e, h.mono x.toExt0⟩
  | ow c =>
    obtain ⟨a, e, h, n1, n2, n3⟩ := q
    obtain ⟨o, ho⟩ := h.isS
    refine ⟨a, e, h.mono x.toExt0 fun o' ho' => x.keep a o' ho' n1 n2, fun z => ?_, fun z => ?_, n3⟩
    · rcases x.fr a z with z | z
      · exact n1 z
      · rw [ho] at z; cases z
    · rcases x.zn a z with z | z
      · exact n2 z
      · rw [ho] at z; cases z
end
end J
namespace J
open PySem PySem.Spec L2

/-- objects are no longer than lists may be -/
def LenOk (H : Hp) : Prop := (∀ a vs, Rd H a (.lst vs) → vs.length ≤ sizeLine) ∧ (∀ a vs, H a = some (.tup vs) → vs.length ≤ sizeLine)
theorem lenOk_of {X : Cx} {pins : List (Addr × Obj)} {σ : L2.St} {H : Hp} {s : Shared} (I : L2.Inv X pins σ H s) : LenOk H := by
  refine ⟨fun a vs h => ?_, fun a vs h => ?_⟩
  · rcases h with h | ⟨o, h⟩
    · obtain ⟨z, _⟩ := (show ObjOk X.prog X.w H s.heap a (.lst vs) from I.hok a _ h); exact z
    · obtain ⟨_, z, _⟩ := (show ObjOk X.prog X.w H s.heap a (.frz o (.lst vs)) from I.hok a _ h); exact z
  · obtain ⟨z, _⟩ := (show ObjOk X.prog X.w H s.heap a (.tup vs) from I.hok a _ h); exact z

abbrev Gx (X : Cx) (ct : List (Str × List Str)) : Gm := ⟨X.K, X.mg, ct⟩

/-- an exception as it lies: its class, its own dict -/
def ExcOk (G : Gm) (W : Wd) (H : Hp) (c : Nat) (ds : List D) (C : Addr) (o : Option Addr) : Prop :=
  ∃ nm ns, G.ct[c]? = some (nm, ns) ∧ G.mg nm = some (.ref C) ∧ ((ds = [] ∧ ns = [] ∧ o = none) ∨ ∃ dx, ∃ vs : List (Str × V), o = some dx ∧ H dx = some (.xd vs) ∧ vs.map (·.1) = ns ∧ Reps G W H ds (vs.map (·.2)))

section
variable (G : Gm) (Wx : WX)

def Post {α β : Type} (Rp : Wd → Hp → α → β → Prop) (W0 : Wd) (H0 : Hp) (W : Wd) (H : Hp) (σ : L2.St) (E : Env) (r : R α) (Q : β → Hp → Prop) : Prop :=
  match r with
  | .ok d M' => ∀ W' H' v, Ext W H W' H' → Rel G W0 H0 W' σ H' E M' → Rp W' H' d v → LenOk H' → Q v H'
  | .exc c ds M' => ∀ W' H' C o, Ext W H W' H' → Rel G W0 H0 W' σ H' E M' → ExcOk G W' H' c ds C o → LenOk H' → Wx (.ref C) o σ H'
  | .bad => False

abbrev RpB : Wd → Hp → Bool → Bool → Prop := fun _ _ b c => b = c
def tF (f : CE) : TE := fun σ H Q => ∃ W0 H0 W E M, Rel G W0 H0 W σ H E M ∧ Post G Wx (fun W' H' => Rep G W' H') W0 H0 W H σ E (f E M) Q
def tT (f : CT) : TT := fun σ H Q => ∃ W0 H0 W E M, Rel G W0 H0 W σ H E M ∧ Post G Wx RpB W0 H0 W H σ E (f E M) Q
def tA (f : CA) : TA := fun σ H Q => ∃ W0 H0 W E M, Rel G W0 H0 W σ H E M ∧ Post G Wx (fun W' H' => Reps G W' H') W0 H0 W H σ E (f E M) Q
end

section
variable {G : Gm} {Wx : WX} {W0 W W1 : Wd} {H0 H H1 : Hp} {σ : L2.St} {E : Env} {M M1 : Mem} {α β γ δ : Type} {Rp : Wd → Hp → α → β → Prop} {Rq : Wd → Hp → γ → δ → Prop}

theorem Post.step {r : R α} {Q : β → Hp → Prop} (rel : Rel G W0 H0 W1 σ H1 E M1) (x : Ext W H W1 H1) (h : Post G Wx Rp W0 H0 W H σ E r Q) : Post G Wx Rp W0 H0 W1 H1 σ E r Q := by
  cases r with
  | ok d M' => exact fun W' H' v x' r' p' l' => h W' H' v (Ext.trans rel.toCRel x x') r' p' l'
  | exc c ds M' => exact fun W' H' C o x' r' p' => h W' H' C o (Ext.trans rel.toCRel x x') r' p'
  | bad => exact h

/-- one part first -/
theorem Post.bind {r : R γ} {k : γ → Mem → R α} {Q : β → Hp → Prop} {Q' : δ → Hp → Prop} (h : Post G Wx Rp W0 H0 W H σ E (r.bind k) Q)
    (hk : ∀ d M1 W1 H1 v, r = .ok d M1 → Ext W H W1 H1 → Rel G W0 H0 W1 σ H1 E M1 → Rq W1 H1 d v → LenOk H1 → Post G Wx Rp W0 H0 W1 H1 σ E (k d M1) Q → Q' v H1) : Post G Wx Rq W0 H0 W H σ E r Q' := by
  cases r with
  | ok d M1 => exact fun W' H' v x r p l => hk d M1 W' H' v rfl x r p l (Post.step r x h)
  | exc c ds M1 => exact h
  | bad => exact h
/-- the end -/
theorem Post.end {d : α} {v : β} {Q : β → Hp → Prop} (h : Post G Wx Rp W0 H0 W H σ E (.ok d M1) Q) (x : Ext W H W1 H1) (r : Rel G W0 H0 W1 σ H1 E M1) (p : Rp W1 H1 d v) (l : LenOk H1) : Q v H1 := h W1 H1 v x r p l

theorem Ext.new {p : Addr} {o : HO} (c : CRel G W H M) (hp : H p = none) : Ext W H W (upd H p o) := by
  have ne : ∀ a u, H a = some u → a ≠ p := fun a u h q => by rw [q, hp] at h; cases h
  refine ⟨⟨⟨⟨[], by simp⟩, fun _ z => z, fun a u z f h => ?_, fun a vs z h => by rw [upd_ne (ne _ _ h)]; exact h, fun a o vs h => by rw [upd_ne (ne _ _ h)]; exact h, fun a xs h => by rw [upd_ne (ne _ _ h)]; exact h, fun a C dx fs z h => by rw [upd_ne (ne _ _ h)]; exact h⟩, fun a o u h => by rw [upd_ne (ne _ _ h)]; exact h⟩, fun _ h => .inl h, fun _ h => .inl h, fun a o' h _ _ => by rw [upd_ne (ne _ _ h)]; exact h⟩
  rcases h with h | ⟨ob, h⟩
  · exact .inl (by rw [upd_ne (ne _ _ h)]; exact h)
  · exact .inr ⟨ob, by rw [upd_ne (ne _ _ h)]; exact h⟩
/-- a new object, frozen at once -/
abbrev Wd.frz (W : Wd) (p : Addr) : Wd := ⟨W.phi, fun a => W.Z a ∨ a = p⟩
theorem Ext.newZ {p : Addr} {o : HO} (c : CRel G W H M) (hp : H p = none) : Ext W H (W.frz p) (upd H p o) := by
  have x := Ext.new (o := o) c hp
  refine ⟨⟨⟨⟨[], by simp⟩, fun _ z => .inl z, x.rd, x.ls, x.fz, x.tp, x.ob⟩, x.fd⟩, fun _ h => .inl h, fun a h => ?_, x.keep⟩
  rcases h with h | h
  · exact .inl h
  · subst h; exact .inr hp
theorem CRel.ext (c : CRel G W H M) (x : Ext W H W1 H1) (hph : W1.phi = W.phi) (hz : ∀ a, W1.Z a → ∃ o, H1 a = some o) (e : ∀ a ∈ W.phi, H1 a = H a) : CRel G W1 H1 M := by
  refine ⟨by rw [hph]; exact c.len, fun l cl a h1 h2 => ?_, by rw [hph]; exact c.nd, fun a h z => ?_, hz⟩
  · rw [hph] at h2
    have hm : a ∈ W.phi := List.mem_of_getElem? h2
    exact (c.cel l cl a h1 h2).mono x.toExt0 fun o ho => by rw [e a hm]; exact ho
  · rw [hph] at h
    rcases x.zn a z with q | q
    · exact c.sep a h q
    · obtain ⟨o, ho⟩ := c.isS h
      rw [q] at ho; cases ho
theorem CRel.new {p : Addr} {o : HO} (c : CRel G W H M) (hp : H p = none) : CRel G W (upd H p o) M := by
  refine c.ext (Ext.new c hp) rfl (fun a z => ?_) fun a h => ?_
  · obtain ⟨u, hu⟩ := c.zs a z
    exact ⟨u, by rw [upd_ne (fun q => by rw [q, hp] at hu; cases hu)]; exact hu⟩
  · obtain ⟨u, hu⟩ := c.isS h
    exact upd_ne (fun q => by rw [q, hp] at hu; cases hu)
theorem CRel.newZ {p : Addr} {o : HO} (c : CRel G W H M) (hp : H p = none) : CRel G (W.frz p) (upd H p o) M := by
  refine c.ext (Ext.newZ c hp) rfl (fun a z => ?_) fun a h => ?_
  · rcases z with z | z
    · obtain ⟨u, hu⟩ := c.zs a z
      exact ⟨u, by rw [upd_ne (fun q => by rw [q, hp] at hu; cases hu)]; exact hu⟩
    · subst z; exact ⟨_, upd_same⟩
  · obtain ⟨u, hu⟩ := c.isS h
    exact upd_ne (fun q => by rw [q, hp] at hu; cases hu)
theorem LenOk.new {p : Addr} {o : HO} (l : LenOk H) (hp : H p = none) (h1 : ∀ vs, o = .lst vs → vs.length ≤ sizeLine) (h2 : ∀ vs, o = .tup vs → vs.length ≤ sizeLine) (h3 : ∀ ob u, o ≠ .frz ob u) : LenOk (upd H p o) := by
  refine ⟨fun a vs h => ?_, fun a vs h => ?_⟩
  · by_cases q : a = p
    · subst q
      rcases h with h | ⟨ob, h⟩
      · rw [upd_same] at h; exact h1 _ (Option.some.inj h)
      · rw [upd_same] at h; exact (h3 _ _ (Option.some.inj h)).elim
    · refine l.1 a vs ?_
      rcases h with h | ⟨ob, h⟩
      · exact .inl (by rw [upd_ne q] at h; exact h)
      · exact .inr ⟨ob, by rw [upd_ne q] at h; exact h⟩
  · by_cases q : a = p
    · subst q
      rw [upd_same] at h; exact h2 _ (Option.some.inj h)
    · rw [upd_ne q] at h; exact l.2 a vs h
end

/-! ### judgements -/
theorem PE.fin {X : Cx} {e : Expr} {t t' : TE} (h : PE X e t) (hw : ∀ σ H Q, LenOk H → t' σ H Q → t σ H (fun v H' => LenOk H' → Q v H')) : PE X e t' :=
  ⟨fun pins s σ H Q I q => thn (h.run pins s σ H _ I (hw σ H Q (lenOk_of I) q)) fun _ _ ⟨v, H', I', r, q'⟩ => ⟨v, H', I', r, q' (lenOk_of I')⟩⟩
theorem PT.fin {X : Cx} {e : Expr} {t t' : TT} (h : PT X e t) (hw : ∀ σ H Q, LenOk H → t' σ H Q → t σ H (fun v H' => LenOk H' → Q v H')) : PT X e t' :=
  ⟨fun pins s σ H Q I q => thn (h.run pins s σ H _ I (hw σ H Q (lenOk_of I) q)) fun _ _ ⟨H', I', q'⟩ => ⟨H', I', q' (lenOk_of I')⟩⟩
theorem PW.fin {X : Cx} {e : Expr} {t t' : TT} (h : PW X e t) (hw : ∀ σ H Q, LenOk H → t' σ H Q → t σ H (fun v H' => LenOk H' → Q v H')) : PW X e t' :=
  ⟨fun wh pins s σ H Q I q => thn (h.run wh pins s σ H _ I (hw σ H Q (lenOk_of I) q)) fun _ _ ⟨H', I', q'⟩ => ⟨H', I', q' (lenOk_of I')⟩⟩
theorem PA.fin {X : Cx} {es : List Expr} {t t' : TA} (h : PA X es t) (hw : ∀ σ H Q, LenOk H → t' σ H Q → t σ H (fun v H' => LenOk H' → Q v H')) : PA X es t' :=
  ⟨fun pos pins s σ H Q I q => thn (h.run pos pins s σ H _ I (hw σ H Q (lenOk_of I) q)) fun _ _ ⟨v, H', I', r, q'⟩ => ⟨v, H', I', r, q' (lenOk_of I')⟩⟩

section
variable {X : Cx} {ct : List (Str × List Str)} {Wx : WX} {e a b : Expr} {es : List Expr} {f f1 f2 f3 : CE} {g : CA} {t t1 t2 : CT} {pos : Pos}
abbrev PF (X : Cx) (ct : List (Str × List Str)) (Wx : WX) (e : Expr) (f : CE) : Prop := PE X e (tF (Gx X ct) Wx f)
abbrev PTf (X : Cx) (ct : List (Str × List Str)) (Wx : WX) (e : Expr) (f : CT) : Prop := PT X e (tT (Gx X ct) Wx f)
abbrev PWf (X : Cx) (ct : List (Str × List Str)) (Wx : WX) (e : Expr) (f : CT) : Prop := PW X e (tT (Gx X ct) Wx f)
abbrev PAf (X : Cx) (ct : List (Str × List Str)) (Wx : WX) (es : List Expr) (g : CA) : Prop := PA X es (tA (Gx X ct) Wx g)

/-- a constant's reading -/
theorem pf_c {v : V} {d : D} (h : PE X e (tC v)) (r : ∀ W H, Rep (Gx X ct) W H d v) : PF X ct Wx e (cC d) := by
  refine PE.fin h ?_
  rintro σ H Q l ⟨W0, H0, W, E, M, rel, p⟩
  exact fun l' => p W H v Ext.refl rel (r W H) l'
theorem pf_int {i : Int} {j} : PF X ct Wx (.Constant (.int i) j pos) (cC (.int i)) := pf_c pe_int fun _ _ => .int i
theorem pf_bl {b : Bool} {j} : PF X ct Wx (.Constant (.bool b) j pos) (cC (.bl b)) := pf_c pe_bl fun _ _ => .bl b
theorem pf_non {j} : PF X ct Wx (.Constant .none j pos) (cC .non) := pf_c pe_non fun _ _ => .non
theorem pf_str {x : Str} {j} : PF X ct Wx (.Constant (.str x) j pos) (cC (.str x)) := pf_c pe_str fun _ _ => .str x

/-- a name of the def -/
theorem pf_v (i : Nat) {x : Str} (hN : X.N[i]? = some x := by rfl) (hv : Vis X.env.scope x := by first | exact Or.inl rfl | exact Or.inr (Or.inl rfl) | exact Or.inr (Or.inr rfl)) (hd : (x == ("__debug__" : Str)) = false := by decide)
    (hcd : (x == ("__classdict__" : Str)) = false := by decide) : PF X ct Wx (.Name x pos) (cV i) := by
  refine PE.fin (pe_var hN hv hd hcd) ?_
  rintro σ H Q l ⟨W0, H0, W, E, M, rel, p⟩
  dsimp only [cV] at p
  cases q : E[i]? with
  | none => rw [q] at p; exact p.elim
  | some s =>
    rw [q] at p
    cases s with
    | un => exact p.elim
    | ow c => exact p.elim
    | sh d =>
      obtain ⟨v, e, h⟩ := rel.slt i _ q
      exact ⟨v, e, fun l' => p W H v Ext.refl rel h l'⟩

end
end J
namespace J
open PySem PySem.Spec L2

/-! ### operands: a value, or a cell of the frame's own -/
inductive Seen (G : Gm) (W : Wd) (H : Hp) (σ : L2.St) (E : Env) : D → V → Prop
  | rep {d : D} {v : V} (h : Rep G W H d v) : Seen G W H σ E d v
  | own {i : Nat} {c : Cell} {v : V} (h1 : E[i]? = some (.ow c)) (h2 : σ[i]? = some (some v)) : Seen G W H σ E c.tree v
def tO (G : Gm) (Wx : WX) (f : CE) : TE := fun σ H Q => ∃ W0 H0 W E M, Rel G W0 H0 W σ H E M ∧ Post G Wx (fun W' H' => Seen G W' H' σ E) W0 H0 W H σ E (f E M) Q
abbrev POf (X : Cx) (ct : List (Str × List Str)) (Wx : WX) (e : Expr) (f : CE) : Prop := PE X e (tO (Gx X ct) Wx f)

section
variable {G : Gm} {Wx : WX} {W0 W W1 W' : Wd} {H0 H H1 H' : Hp} {σ : L2.St} {E : Env} {M M1 : Mem} {d : D} {v : V} {ds : List D}
theorem Seen.mono (x : Ext0 W H W1 H1) (s : Seen G W H σ E d v) : Seen G W1 H1 σ E d v := by
  cases s with
  | rep h => exact .rep (h.mono x)
  | own h1 h2 => exact .own h1 h2
theorem Post.imp {α β : Type} {Rp Rq : Wd → Hp → α → β → Prop} {r : R α} {Q : β → Hp → Prop} (h : Post G Wx Rq W0 H0 W H σ E r Q) (i : ∀ W H a b, Rp W H a b → Rq W H a b) : Post G Wx Rp W0 H0 W H σ E r Q := by
  cases r with
  | ok d M' => exact fun W' H' v x r p l => h W' H' v x r (i _ _ _ _ p) l
  | exc c ds M' => exact h
  | bad => exact h
theorem PE.o {X : Cx} {ct : List (Str × List Str)} {e : Expr} {f : CE} (h : PF X ct Wx e f) : POf X ct Wx e f :=
  ⟨fun pins s σ H Q I ⟨W0, H0, W, E, M, rel, p⟩ => h.run pins s σ H Q I ⟨W0, H0, W, E, M, rel, p.imp fun _ _ _ _ => .rep⟩⟩

/-- what is seen as a tree of some kind -/
theorem Rel.seen (r : Rel G W0 H0 W σ H E M) (s : Seen G W H σ E d v) :
    (∃ a c, v = .ref a ∧ view M d = c.tree ∧ CellOk G W H a c) ∨ (view M d = d ∧ Rep G W H d v) := by
  cases s with
  | rep h =>
    cases h with
    | @loc a l h =>
      have hl : l < W.phi.length := (List.getElem?_eq_some_iff.mp h).1
      have hl' : l < M.length := by rw [← r.len]; exact hl
      refine .inl ⟨a, M[l], rfl, ?_, r.cel l M[l] a (List.getElem?_eq_getElem hl') h⟩
      show (match M[l]? with | some c => c.tree | none => .non) = _
      rw [List.getElem?_eq_getElem hl']
    | non => exact .inr ⟨rfl, .non⟩
    | bl b => exact .inr ⟨rfl, .bl b⟩
    | int b => exact .inr ⟨rfl, .int b⟩
    | str b => exact .inr ⟨rfl, .str b⟩
    | tup h q => exact .inr ⟨rfl, .tup h q⟩
    | lst z h q => exact .inr ⟨rfl, .lst z h q⟩
    | scr h q => exact .inr ⟨rfl, .scr h q⟩
    | dK z h k q => exact .inr ⟨rfl, .dK z h k q⟩
    | dT z h k q => exact .inr ⟨rfl, .dT z h k q⟩
    | obj z t c h k q => exact .inr ⟨rfl, .obj z t c h k q⟩
    | fn h => exact .inr ⟨rfl, .fn h⟩
    | ty n => exact .inr ⟨rfl, .ty n⟩
  | @own i c v h1 h2 =>
    obtain ⟨a, e, h, _⟩ := r.slt i _ h1
    rw [h2] at e
    cases e
    refine .inl ⟨a, c, rfl, ?_, h⟩
    cases c <;> rfl
theorem see_int (r : Rel G W0 H0 W σ H E M) (s : Seen G W H σ E d v) {i : Int} (e : view M d = .int i) : v = .int i := by
  rcases r.seen s with ⟨a, c, _, q, _⟩ | ⟨q, h⟩
  · rw [e] at q; cases c <;> cases q
  · rw [e] at q; subst q; cases h; rfl
theorem see_bl (r : Rel G W0 H0 W σ H E M) (s : Seen G W H σ E d v) {i : Bool} (e : view M d = .bl i) : v = .bl i := by
  rcases r.seen s with ⟨a, c, _, q, _⟩ | ⟨q, h⟩
  · rw [e] at q; cases c <;> cases q
  · rw [e] at q; subst q; cases h; rfl
theorem see_str (r : Rel G W0 H0 W σ H E M) (s : Seen G W H σ E d v) {i : Str} (e : view M d = .str i) : v = .str i := by
  rcases r.seen s with ⟨a, c, _, q, _⟩ | ⟨q, h⟩
  · rw [e] at q; cases c <;> cases q
  · rw [e] at q; subst q; cases h; rfl
theorem see_tup (r : Rel G W0 H0 W σ H E M) (s : Seen G W H σ E d v) (e : view M d = .tup ds) : ∃ a vs, v = .ref a ∧ H a = some (.tup vs) ∧ Reps G W H ds vs ∧ d = .tup ds := by
  rcases r.seen s with ⟨a, c, _, q, _⟩ | ⟨q, h⟩
  · rw [e] at q; cases c <;> cases q
  · rw [e] at q; subst q
    cases h with
    | tup h q => exact ⟨_, _, rfl, h, q, rfl⟩
theorem see_lst (r : Rel G W0 H0 W σ H E M) (s : Seen G W H σ E d v) (e : view M d = .lst ds) : ∃ a vs, v = .ref a ∧ H a = some (.lst vs) ∧ Reps G W H ds vs := by
  rcases r.seen s with ⟨a, c, ev, q, h⟩ | ⟨q, h⟩
  · rw [e] at q
    cases c with
    | lst es => cases q; obtain ⟨vs, h1, h2⟩ := h; exact ⟨a, vs, ev, h1, h2⟩
    | _ => cases q
  · rw [e] at q; subst q
    cases h with
    | lst z h q => exact ⟨_, _, rfl, h, q⟩
theorem see_scr (r : Rel G W0 H0 W σ H E M) (s : Seen G W H σ E d v) (e : view M d = .scr ds) : ∃ a vs, v = .ref a ∧ SqL G.K H a vs ∧ Reps G W H ds vs := by
  rcases r.seen s with ⟨a, c, ev, q, h⟩ | ⟨q, h⟩
  · rw [e] at q
    cases c <;> cases q
  · rw [e] at q; subst q
    cases h with
    | scr h q =>
      rcases h with ⟨o, h⟩ | h
      · exact ⟨_, _, rfl, .inl (.inr ⟨o, h⟩), q⟩
      · exact ⟨_, _, rfl, .inr h, q⟩
theorem see_dK (r : Rel G W0 H0 W σ H E M) (s : Seen G W H σ E d v) {kvs : List (Key × D)} (e : view M d = .dK kvs) :
    ∃ a, ∃ vs : List (Key × V), v = .ref a ∧ Rd H a (.dK vs) ∧ vs.map (·.1) = kvs.map (·.1) ∧ Reps G W H (kvs.map (·.2)) (vs.map (·.2)) := by
  rcases r.seen s with ⟨a, c, ev, q, h⟩ | ⟨q, h⟩
  · rw [e] at q
    cases c with
    | dK es => cases q; obtain ⟨vs, h1, h2, h3⟩ := h; exact ⟨a, vs, ev, .inl h1, h2, h3⟩
    | _ => cases q
  · rw [e] at q; subst q
    cases h with
    | dK z h k q => exact ⟨_, _, rfl, h, k, q⟩
theorem see_dT (r : Rel G W0 H0 W σ H E M) (s : Seen G W H σ E d v) {kvs : List (List Key × D)} (e : view M d = .dT kvs) :
    ∃ a, ∃ vs : List (List Key × V), v = .ref a ∧ Rd H a (.dT vs) ∧ vs.map (·.1) = kvs.map (·.1) ∧ Reps G W H (kvs.map (·.2)) (vs.map (·.2)) := by
  rcases r.seen s with ⟨a, c, ev, q, h⟩ | ⟨q, h⟩
  · rw [e] at q
    cases c with
    | dT es => cases q; obtain ⟨vs, h1, h2, h3⟩ := h; exact ⟨a, vs, ev, .inl h1, h2, h3⟩
    | _ => cases q
  · rw [e] at q; subst q
    cases h with
    | dT z h k q => exact ⟨_, _, rfl, h, k, q⟩
theorem see_obj (r : Rel G W0 H0 W σ H E M) (s : Seen G W H σ E d v) {c : Nat} (e : view M d = .obj c ds) :
    ∃ nm ns a C dx, ∃ vs : List (Str × V), v = .ref a ∧ G.ct[c]? = some (nm, ns) ∧ G.mg nm = some (.ref C) ∧ H a = some (.ins C dx vs) ∧ vs.map (·.1) = ns.take ds.length ∧ Reps G W H ds (vs.map (·.2)) := by
  rcases r.seen s with ⟨a, c', ev, q, h⟩ | ⟨q, h⟩
  · rw [e] at q
    cases c' with
    | ins c' es =>
      injection q with q1 q2
      subst q1 q2
      obtain ⟨nm, ns, C, dx, vs, h1, h2, h3, h4, h5⟩ := h
      exact ⟨nm, ns, a, C, dx, vs, ev, h1, h2, h3, h4, h5⟩
    | _ => cases q
  · rw [e] at q; subst q
    cases h with
    | obj z t c h k q => exact ⟨_, _, _, _, _, _, rfl, t, c, h, k, q⟩
end

section
variable {X : Cx} {ct : List (Str × List Str)} {Wx : WX} {e a b : Expr} {es : List Expr} {f f1 f2 f3 : CE} {g : CA} {t t1 t2 : CT} {pos : Pos}
/-- a cell of the frame's own, by its name -/
theorem po_own (i : Nat) {x : Str} (hN : X.N[i]? = some x := by rfl) (hv : Vis X.env.scope x := by first | exact Or.inl rfl | exact Or.inr (Or.inl rfl) | exact Or.inr (Or.inr rfl)) (hd : (x == ("__debug__" : Str)) = false := by decide)
    (hcd : (x == ("__classdict__" : Str)) = false := by decide) : POf X ct Wx (.Name x pos) (oV i) := by
  refine PE.fin (pe_var hN hv hd hcd) ?_
  rintro σ H Q l ⟨W0, H0, W, E, M, rel, p⟩
  dsimp only [oV] at p
  cases q : E[i]? with
  | none => rw [q] at p; exact p.elim
  | some s =>
    rw [q] at p
    cases s with
    | un => exact p.elim
    | sh d => exact p.elim
    | ow c =>
      obtain ⟨v, e, h⟩ := rel.slt i _ q
      exact ⟨_, e, fun l' => p W H _ Ext.refl rel (.own q e) l'⟩

/-- an operation by values: f does what g says -/
def OpF (X : Cx) (ct : List (Str × List Str)) (f : Value → Value → Sem Value) (gg : D → D → Option D) : Prop :=
  ∃ r : R2, OpR X f r ∧ ∀ W0 H0 W σ H E M d1 d2 v1 v2 d Q, Rel (Gx X ct) W0 H0 W σ H E M → LenOk H → Seen (Gx X ct) W H σ E d1 v1 → Seen (Gx X ct) W H σ E d2 v2 → gg (view M d1) (view M d2) = some d →
      (∀ W' H' v, Ext W H W' H' → CRel (Gx X ct) W' H' M → Rep (Gx X ct) W' H' d v → LenOk H' → Q v H') → r v1 v2 H Q
theorem pf_op2 {r : R2} {gg : D → D → Option D} {e' : Expr} (hb : PE X e' (tOp r (tO (Gx X ct) Wx f1) (tO (Gx X ct) Wx f2)))
    (hr : ∀ W0 H0 W σ H E M d1 d2 v1 v2 d Q, Rel (Gx X ct) W0 H0 W σ H E M → LenOk H → Seen (Gx X ct) W H σ E d1 v1 → Seen (Gx X ct) W H σ E d2 v2 → gg (view M d1) (view M d2) = some d →
      (∀ W' H' v, Ext W H W' H' → CRel (Gx X ct) W' H' M → Rep (Gx X ct) W' H' d v → LenOk H' → Q v H') → r v1 v2 H Q) : PF X ct Wx e' (c2 gg f1 f2) := by
  refine PE.fin hb ?_
  rintro σ H Q l ⟨W0, H0, W, E, M, rel, p⟩
  refine ⟨W0, H0, W, E, M, rel, Post.bind p fun d1 M1 W1 H1 v1 _ x1 rel1 p1 l1 p => ?_⟩
  refine ⟨W0, H0, W1, E, M1, rel1, Post.bind p fun d2 M2 W2 H2 v2 _ x2 rel2 p2 l2 p => ?_⟩
  cases q : gg (view M2 d1) (view M2 d2) with
  | none => rw [q] at p; exact p.elim
  | some d =>
    rw [q] at p
    exact hr W0 H0 W2 σ H2 E M2 d1 d2 v1 v2 d _ rel2 l2 (p1.mono x2.toExt0) p2 q fun W' H' v x' c' r' l' l'' => p W' H' v x' (rel2.after x' c') r' l''
theorem pf_bin {op : Operator} {gg : D → D → Option D} (ho : OpF X ct (binaryOp op) gg) (ha : POf X ct Wx a f1) (hb : POf X ct Wx b f2) : PF X ct Wx (.BinOp a op b pos) (c2 gg f1 f2) := by
  obtain ⟨r, h1, h2⟩ := ho
  exact pf_op2 (pe_op h1 ha hb) h2
theorem pf_cmp {op : CmpOp} {gg : D → D → Option D} (ho : OpF X ct (compareOp op) gg) (ha : POf X ct Wx a f1) (hb : POf X ct Wx b f2) (hm : behindInMarks op b = false) : PF X ct Wx (.Compare a [op] [b] pos) (c2 gg f1 f2) := by
  obtain ⟨r, h1, h2⟩ := ho
  exact pf_op2 (pe_cmpR h1 ha hb hm) h2
/-- .. as a test -/
theorem pt_cmp' {op : CmpOp} {gg : D → D → Option D} (ho : OpF X ct (compareOp op) gg) (ha : POf X ct Wx a f1) (hb : POf X ct Wx b f2) (hm : behindInMarks op b = false) : PTf X ct Wx (.Compare a [op] [b] pos) (tV (c2 gg f1 f2)) := by
  obtain ⟨r, h1, h2⟩ := ho
  refine PT.fin (pt_cmpR h1 ha hb hm) ?_
  rintro σ H Q l ⟨W0, H0, W, E, M, rel, p⟩
  refine ⟨W0, H0, W, E, M, rel, ?_⟩
  have p' : Post (Gx X ct) Wx RpB W0 H0 W H σ E ((f1 E M).bind fun d1 M1 => ((f2 E M1).bind fun d2 M2 => ofO (gg (view M2 d1) (view M2 d2)) M2).bind fun d M => match d with | .bl b => .ok b M | _ => .bad) Q := by
    dsimp only [tV, c2] at p
    cases h : f1 E M <;> rw [h] at p <;> exact p
  refine Post.bind p' fun d1 M1 W1 H1 v1 _ x1 rel1 p1 l1 p => ?_
  refine ⟨W0, H0, W1, E, M1, rel1, ?_⟩
  have p' : Post (Gx X ct) Wx RpB W0 H0 W1 H1 σ E ((f2 E M1).bind fun d2 M2 => ((ofO (gg (view M2 d1) (view M2 d2)) M2).bind fun d M => match d with | .bl b => .ok b M | _ => .bad)) Q := by
    cases h : f2 E M1 <;> rw [h] at p <;> exact p
  refine Post.bind p' fun d2 M2 W2 H2 v2 _ x2 rel2 p2 l2 p => ?_
  cases q : gg (view M2 d1) (view M2 d2) with
  | none => rw [q] at p; exact p.elim
  | some d =>
    rw [q] at p
    refine h2 W0 H0 W2 σ H2 E M2 d1 d2 v1 v2 d _ rel2 l2 (p1.mono x2.toExt0) p2 q fun W' H' v x' c' r' l' => ?_
    cases r' with
    | bl k => exact ⟨k, rfl, fun l'' => p W' H' k x' (rel2.after x' c') rfl l'⟩
    | _ => exact p.elim

/-! ### ints -/
theorem opf_int {fx : Value → Value → Sem Value} {C : Int → Int → Prop} {gv : Int → Int → V} {gg : D → D → Option D} (ho : OpR X fx (rI C gv))
    (hg : ∀ a b d, gg a b = some d → ∃ i j, a = .int i ∧ b = .int j ∧ C i j ∧ ∀ W H, Rep (Gx X ct) W H d (gv i j)) : OpF X ct fx gg := by
  refine ⟨_, ho, fun W0 H0 W σ H E M d1 d2 v1 v2 d Q rel l s1 s2 q k => ?_⟩
  obtain ⟨i, j, e1, e2, c, hd⟩ := hg _ _ _ q
  exact ⟨i, j, see_int rel s1 e1, see_int rel s2 e2, c, k W H _ Ext.refl rel.toCRel (hd W H) l⟩
theorem opf_int0 {fx : Value → Value → Sem Value} {gv : Int → Int → V} {gg : D → D → Option D} (ho : OpR X fx (rI0 gv))
    (hg : ∀ a b d, gg a b = some d → ∃ i j, a = .int i ∧ b = .int j ∧ ∀ W H, Rep (Gx X ct) W H d (gv i j)) : OpF X ct fx gg := by
  refine ⟨_, ho, fun W0 H0 W σ H E M d1 d2 v1 v2 d Q rel l s1 s2 q k => ?_⟩
  obtain ⟨i, j, e1, e2, hd⟩ := hg _ _ _ q
  exact ⟨i, j, see_int rel s1 e1, see_int rel s2 e2, k W H _ Ext.refl rel.toCRel (hd W H) l⟩
theorem of_sub : OpF X ct (binaryOp .Sub) gSub := opf_int0 op_sub fun a b d h => by
  unfold gSub at h; split at h
  · cases h; exact ⟨_, _, rfl, rfl, fun _ _ => .int _⟩
  · cases h
theorem of_mod : OpF X ct (binaryOp .Mod) gMod := opf_int op_mod fun a b d h => by
  unfold gMod at h; split at h
  · split at h
    · rename_i c; cases h; exact ⟨_, _, rfl, rfl, c, fun _ _ => .int _⟩
    · cases h
  · cases h
theorem of_div : OpF X ct (binaryOp .FloorDiv) gDiv := opf_int op_fdiv fun a b d h => by
  unfold gDiv at h; split at h
  · split at h
    · rename_i c; cases h; exact ⟨_, _, rfl, rfl, c, fun _ _ => .int _⟩
    · cases h
  · cases h
theorem of_pow : OpF X ct (binaryOp .Pow) gPow := opf_int op_pow fun a b d h => by
  unfold gPow at h; split at h
  · split at h
    · rename_i c; cases h; exact ⟨_, _, rfl, rfl, c, fun _ _ => .int _⟩
    · cases h
  · cases h
theorem of_lt : OpF X ct (compareOp .Lt) gLt := opf_int0 op_lt fun a b d h => by
  unfold gLt at h; split at h
  · cases h; exact ⟨_, _, rfl, rfl, fun _ _ => .bl _⟩
  · cases h
theorem of_le : OpF X ct (compareOp .LtE) gLe := opf_int0 op_le fun a b d h => by
  unfold gLe at h; split at h
  · cases h; exact ⟨_, _, rfl, rfl, fun _ _ => .bl _⟩
  · cases h
theorem of_gt : OpF X ct (compareOp .Gt) gGt := opf_int0 op_gt fun a b d h => by
  unfold gGt at h; split at h
  · cases h; exact ⟨_, _, rfl, rfl, fun _ _ => .bl _⟩
  · cases h
theorem of_ge : OpF X ct (compareOp .GtE) gGe := opf_int0 op_ge fun a b d h => by
  unfold gGe at h; split at h
  · cases h; exact ⟨_, _, rfl, rfl, fun _ _ => .bl _⟩
  · cases h
end
end J
namespace J
open PySem PySem.Spec L2

section
variable {G : Gm} {Wx : WX} {W0 W W1 W' : Wd} {H0 H H1 H' : Hp} {σ : L2.St} {E : Env} {M M1 : Mem} {d : D} {v : V} {ds : List D}

theorem reps_ints : ∀ {ds : List D} {vs : List V} {ns : List Int}, Reps G W H ds vs → intsD ds = some ns → vs = ns.map V.int
  | [], _, ns, r, e => by
    cases r
    cases e
    rfl
  | d :: ds, _, ns, r, e => by
    cases r with
    | cons h t =>
      cases d with
      | int i =>
        simp only [intsD, Option.map_eq_some_iff] at e
        obtain ⟨ms, e1, rfl⟩ := e
        cases h
        rw [reps_ints t e1]
        rfl
      | _ => cases e
theorem reps_bools : ∀ {ds : List D} {vs : List V} {ns : List Bool}, Reps G W H ds vs → boolsD ds = some ns → vs = ns.map V.bl
  | [], _, ns, r, e => by
    cases r
    cases e
    rfl
  | d :: ds, _, ns, r, e => by
    cases r with
    | cons h t =>
      cases d with
      | bl i =>
        simp only [boolsD, Option.map_eq_some_iff] at e
        obtain ⟨ms, e1, rfl⟩ := e
        cases h
        rw [reps_bools t e1]
        rfl
      | _ => cases e
theorem rep_key {d : D} {v : V} {k : Key} (r : Rep G W H d v) (e : keyOf d = some k) : v = kV k := by
  cases d with
  | int i => cases e; cases r; rfl
  | str i => cases e; cases r; rfl
  | _ => cases e
theorem reps_keys : ∀ {ds : List D} {vs : List V} {ks : List Key}, Reps G W H ds vs → keysOf ds = some ks → vs = ks.map kV
  | [], _, ks, r, e => by
    cases r
    cases e
    rfl
  | d :: ds, _, ks, r, e => by
    cases r with
    | cons h t =>
      simp only [keysOf, Option.bind_eq_some_iff] at e
      obtain ⟨k, e1, ks', e2, e3⟩ := e
      cases e3
      rw [rep_key h e1, reps_keys t e2]
      rfl
/-- a dict's entries and what is looked up -/
theorem reps_look {κ : Type} [DecidableEq κ] {k : κ} : ∀ {kvs : List (κ × D)} {vs : List (κ × V)}, vs.map (·.1) = kvs.map (·.1) → Reps G W H (kvs.map (·.2)) (vs.map (·.2)) →
    (∀ {d : D}, look kvs k = some d → ∃ v, valV vs k = some v ∧ Rep G W H d v) ∧ (look kvs k = none → valV vs k = none)
  | [], vs, e, r => by
    cases vs with
    | nil => exact ⟨fun h => (nomatch h), fun _ => rfl⟩
    | cons _ _ => cases e
  | kv :: kvs, vs, e, r => by
    cases vs with
    | nil => cases e
    | cons p vs =>
      rw [List.map_cons, List.map_cons] at e r
      injection e with e1 e2
      cases r with
      | cons h t =>
        by_cases q : kv.1 = k
        · refine ⟨fun {d} hd => ?_, fun hd => ?_⟩
          · have : look (kv :: kvs) k = some kv.2 := by simp [look, List.find?_cons, q]
            rw [this] at hd
            cases hd
            exact ⟨_, valV_pos (e1.trans q), h⟩
          · have : look (kv :: kvs) k = some kv.2 := by simp [look, List.find?_cons, q]
            rw [this] at hd
            cases hd
        · have e3 : look (kv :: kvs) k = look kvs k := by simp [look, List.find?_cons, q]
          have e4 : valV (p :: vs) k = valV vs k := valV_neg (by rw [e1]; exact q)
          rw [e3, e4]
          exact reps_look e2 t
theorem any_look {κ : Type} [DecidableEq κ] (k : κ) : ∀ kvs : List (κ × D), (kvs.any fun kv => decide (kv.1 = k)) = (look kvs k).isSome
  | [] => rfl
  | kv :: r => by
    by_cases e : kv.1 = k
    · simp [look, List.find?_cons, e]
    · have h : look (kv :: r) k = look r k := by simp [look, List.find?_cons, e]
      rw [List.any_cons, any_look k r, h]
      simp [e]
end

section
variable {X : Cx} {ct : List (Str × List Str)} {Wx : WX} {e a b : Expr} {es : List Expr} {f f1 f2 f3 : CE} {g : CA} {t t1 t2 : CT} {pos : Pos}

/-! ### tuples: concatenation with an empty left side -/
theorem cat_tup0 {prog : Program} {w : World} {A : Around} {E : Value → Shared → Prop} {s : Shared} {t b : Addr} {ws : List Value} {Q : Value → Shared → Prop} (ht : PyProof.Rows.IsTup s.heap t ([] : List Value).toArray) (hb : PyProof.Rows.IsTup s.heap b ws.toArray)
    (h : Q (.ref b) s) : wpAny (model prog w) A (binaryOp .Add (.ref t) (.ref b)) Q E s := by
  obtain ⟨⟨cls, dd, data, sl⟩, ho, hc, n, hd⟩ := id ht
  obtain ⟨⟨cls2, dd2, data2, sl2⟩, ho2, hc2, n2, hd2⟩ := id hb
  simp only at hc hd hc2 hd2
  subst hc hd hc2 hd2
  exact concat_meets ⟨_, ho, rfl⟩ ⟨_, ho2, rfl⟩ noFill_tuple_add seq_tuple_add PySem.F.slot_tuple_add PySem.F.entry_tuple_add (PySem.F.args_tuple_add_2 _ _)
      (PyProof.Rows.tuple_addW0 t b _ ws.toArray n n2 dd dd2 sl sl2 (by simp)) ⟨ho, ho2, h⟩

/-! ### tuples: repeated -/
theorem noR_tuple_mul : typeLookup (.type "tuple") (dunderR "mul") = pure (some (.builtin "tuple.__rmul__")) := by rw [typeLookup_type, builtinLookup_eq_fast]; kernel_rfl
theorem noFill_tuple_mul : fillsNumberSlot (.type "tuple") "mul" = pure false := fillsNumberSlot_seq (id := "tuple.__mul__") (r := some (.builtin "tuple.__rmul__")) PySem.F.slot_tuple_mul.lookup (by decide +kernel) noR_tuple_mul (by decide +kernel)
theorem repeat_tuple : seqRepeat? (.type "tuple") = pure (some (.builtin "tuple.__mul__")) := by
  unfold seqRepeat?
  rw [seqSlot_of (T := "tuple") (name := "__mul__") (id := "tuple.__mul__") PySem.F.slot_tuple_mul.lookup (by decide +kernel), seqSlot_of (T := "tuple") (name := "__rmul__") (id := "tuple.__rmul__") noR_tuple_mul (by decide +kernel)]
  rfl
theorem int_rmul_tuple (a : Int) (t : Tok) (l : Addr) (items : Array Value) (n : Nat) (dd : Option Addr) (sl : Array (Option Value)) :
    Meets (Builtin.«int.__rmul__» ⟨[.int a t, .ref l], []⟩) (fun _ R s => s.heap.get? l = some { cls := .type "tuple", dict := dd, data := .seq items n, slots := sl } ∧ R (.ok (.ret Value.notImplemented)) s) :=
  .of_wp fun prog w A R s h => by
    obtain ⟨hp, g, d, tk, os⟩ := s; obtain ⟨hl, h⟩ := h
    wp_walk; exact ⟨_, rfl, h⟩
theorem ite_bf {M : Model} {A : Around} {E : Value → Shared → Prop} {s : Shared} {α : Type} {c : Bool} {a b : Sem α} {Q : α → Shared → Prop} (hc : c = false) (h : wpAny M A b Q E s) : wpAny M A (if c = true then a else b) Q E s := by
  rw [if_neg (by rw [hc]; decide)]; exact h
theorem ite_bt {M : Model} {A : Around} {E : Value → Shared → Prop} {s : Shared} {α : Type} {c : Bool} {a b : Sem α} {Q : α → Shared → Prop} (hc : c = true) (h : wpAny M A a Q E s) : wpAny M A (if c = true then a else b) Q E s := by
  rw [if_pos hc]; exact h
theorem tuple_mul_same (x : Int) (u : Tok) (l : Addr) (items : Array Value) (n : Nat) (dd : Option Addr) (sl : Array (Option Value)) (h1 : (decide (x < -2 ^ 63) || decide (x ≥ 2 ^ 63)) = false) (h2 : (items.isEmpty || x == 1) = true) :
    Meets (Builtin.«tuple.__mul__» ⟨[.ref l, .int x u], []⟩) (fun _ R s => s.heap.get? l = some { cls := .type "tuple", dict := dd, data := .seq items n, slots := sl } ∧ R (.ok (.ret (Value.ref l))) s) :=
  .of_wp fun prog w A R s h => by
    obtain ⟨hp, g, d, tk, os⟩ := s; obtain ⟨hl, h⟩ := h
    have f1 := AutoSeq1.idx_int
    have f2 := AutoSeq1.sub_tuple_tuple
    wp_walk
    refine ite_bf h1 ?_
    wp_walk using AutoSeq1.wpAny_loadPart' hl
    exact ⟨_, rfl, h⟩
theorem tuple_mul_none (x : Int) (u : Tok) (l : Addr) (items : Array Value) (n : Nat) (dd : Option Addr) (sl : Array (Option Value)) (h1 : (decide (x < -2 ^ 63) || decide (x ≥ 2 ^ 63)) = false) (h2 : (items.isEmpty || x == 1) = false) (h3 : (decide (x ≤ 0) || items.isEmpty) = true) :
    Meets (Builtin.«tuple.__mul__» ⟨[.ref l, .int x u], []⟩) (fun _ R s => s.heap.get? l = some { cls := .type "tuple", dict := dd, data := .seq items n, slots := sl } ∧ R (.ok (.ret (Value.ref s.heap.objs.size))) { s with heap := s.heap.push { cls := .type "tuple", data := .seq #[] } }) :=
  .of_wp fun prog w A R s h => by
    obtain ⟨hp, g, d, tk, os⟩ := s; obtain ⟨hl, h⟩ := h
    have f1 := AutoSeq1.idx_int
    have f2 := AutoSeq1.sub_tuple_tuple
    wp_walk
    refine ite_bf h1 ?_
    wp_walk using AutoSeq1.wpAny_loadPart' hl
    exact ⟨_, rfl, h⟩
theorem tuple_mul_new (x : Int) (u : Tok) (l : Addr) (items : Array Value) (n : Nat) (dd : Option Addr) (sl : Array (Option Value)) (h1 : (decide (x < -2 ^ 63) || decide (x ≥ 2 ^ 63)) = false) (h2 : (items.isEmpty || x == 1) = false) (h3 : (decide (x ≤ 0) || items.isEmpty) = false)
    (h4 : ¬ (items.size : Int) * x > (2 ^ 63 - 1) / 8) (h5 : Builtin.Tuple.tupleTooMany ((items.size : Int) * x) = false) (h6 : (List.foldl (fun x1 x2 => x1 ++ x2) #[] (List.replicate x.toNat items)).size ≤ sizeLine) :
    Meets (Builtin.«tuple.__mul__» ⟨[.ref l, .int x u], []⟩) (fun _ R s => s.heap.get? l = some { cls := .type "tuple", dict := dd, data := .seq items n, slots := sl } ∧ R (.ok (.ret (Value.ref s.heap.objs.size))) { s with heap := s.heap.push { cls := .type "tuple", data := .seq (List.foldl (fun x1 x2 => x1 ++ x2) #[] (List.replicate x.toNat items)) } }) :=
  .of_wp fun prog w A R s h => by
    obtain ⟨hp, g, d, tk, os⟩ := s; obtain ⟨hl, h⟩ := h
    have f1 := AutoSeq1.idx_int
    have f2 := AutoSeq1.sub_tuple_tuple
    wp_walk
    refine ite_bf h1 ?_
    wp_walk using AutoSeq1.wpAny_loadPart' hl
    refine wpAny_ite_false (decide_eq_false h4) ?_
    wp_walk
    exact ⟨_, rfl, h⟩

theorem rep_fold : ∀ (m : Nat) (its acc : List Value), List.foldl (fun x1 x2 => x1 ++ x2) acc.toArray (List.replicate m its.toArray) = (acc ++ (List.replicate m its).flatten).toArray
  | 0, its, acc => by simp
  | m + 1, its, acc => by
    rw [List.replicate_succ, List.foldl_cons, List.replicate_succ, List.flatten_cons]
    have e : acc.toArray ++ its.toArray = (acc ++ its).toArray := by simp
    rw [e, rep_fold m its (acc ++ its), List.append_assoc]
theorem Vals.repl {xs : List V} {us : List Value} (r : Vals xs us) : ∀ n : Nat, Vals (List.replicate n xs).flatten (List.replicate n us).flatten
  | 0 => .nil
  | n + 1 => by
    rw [List.replicate_succ, List.flatten_cons, List.replicate_succ, List.flatten_cons]
    exact r.append (Vals.repl r n)
theorem len_repl {α : Type} (xs : List α) : ∀ n : Nat, (List.replicate n xs).flatten.length = n * xs.length
  | 0 => by simp
  | n + 1 => by rw [List.replicate_succ, List.flatten_cons, List.length_append, len_repl xs n, Nat.succ_mul, Nat.add_comm]
/-- a tuple times an int -/
def rRepT : R2 := fun x y H Q => ∃ a k xs, x = .ref a ∧ y = .int k ∧ H a = some (.tup xs) ∧ -(2 ^ 63) ≤ k ∧ k < 2 ^ 63 ∧ xs.length * k.toNat ≤ sizeLine ∧
  ((xs = [] ∨ k = 1) → Q (.ref a) H) ∧ (¬ (xs = [] ∨ k = 1) → ∀ p, H p = none → Q (.ref p) (upd H p (.tup (List.replicate k.toNat xs).flatten)))
theorem op_repT : OpR X (binaryOp .Mult) rRepT := by
  intro pins s σ H x y v u Q I rx ry h
  obtain ⟨a, k, xs, rfl, rfl, hH, h1, h2, hz, q1, q2⟩ := h
  cases rx
  obtain ⟨t, rfl⟩ := ry
  obtain ⟨z, its, r, p⟩ := (show ObjOk X.prog X.w H s.heap a (.tup xs) from I.hok a _ hH)
  obtain ⟨⟨cls, dd, data, sl⟩, ho, hc, n, hd⟩ := id p
  simp only at hc hd
  subst hc hd
  have e1 : (decide (k < -2 ^ 63) || decide (k ≥ 2 ^ 63)) = false := by
    rw [Bool.or_eq_false_iff]
    exact ⟨decide_eq_false (by omega), decide_eq_false (by omega)⟩
  have hl := r.length
  refine wpAny_binaryOp_repeat_ref (T := "tuple") (U := "int") (by decide) p.typeIs (fun s' => typeIs_int s' k t) noFill_tuple_mul PySem.F.fills_int_mul PySem.F.slot_int_rmul repeat_tuple PySem.F.slot_int_index.lookup
    (call_meets PySem.F.slot_int_rmul (typeIs_int s k t) PySem.F.entry_int_rmul (PySem.F.args_int_rmul_2 _ _) (int_rmul_tuple k t a its.toArray n dd sl)
      ⟨ho, rfl, p.typeIs, ?_⟩)
  by_cases c : xs = [] ∨ k = 1
  · have e2 : (its.toArray.isEmpty || k == 1) = true := by
      rcases c with c | c
      · subst c
        have : its = [] := List.length_eq_zero_iff.mp hl.symm
        subst this
        rfl
      · subst c; simp
    exact call_meets PySem.F.slot_tuple_mul p.typeIs PySem.F.entry_tuple_mul (PySem.F.args_tuple_mul_2 _ _) (tuple_mul_same k t a its.toArray n dd sl e1 e2) ⟨ho, ⟨.ref a, H, I, rfl, q1 c⟩⟩
  · have n1 : its ≠ [] := fun q => c (.inl (List.length_eq_zero_iff.mp (by rw [hl, q]; rfl)))
    have n2 : k ≠ 1 := fun q => c (.inr q)
    have e2 : (its.toArray.isEmpty || k == 1) = false := by
      rw [Bool.or_eq_false_iff]
      refine ⟨?_, by simpa using n2⟩
      cases its with
      | nil => exact (n1 rfl).elim
      | cons _ _ => simp
    have hfr : H s.heap.objs.size = none := I.hok.fresh (Nat.le_refl _)
    have q2 := q2 c _ hfr
    by_cases e3 : k ≤ 0
    · have k0 : k.toNat = 0 := by omega
      rw [k0] at q2
      refine call_meets PySem.F.slot_tuple_mul p.typeIs PySem.F.entry_tuple_mul (PySem.F.args_tuple_mul_2 _ _) (tuple_mul_none k t a its.toArray n dd sl e1 e2 (by rw [decide_eq_true e3]; rfl)) ⟨ho, ?_⟩
      refine ⟨.ref s.heap.objs.size, _, I.laid (t' := s.toks) (o := .tup []) (fun b ob q => Heap.get?_push_of_some _ q) (Nat.le_refl _) ?_, rfl, q2⟩
      exact ⟨Nat.zero_le _, [], .nil, PyProof.Rows.IsTup.new _ _⟩
    · have ef := rep_fold k.toNat its []
      rw [List.nil_append] at ef
      have hsz : (its.toArray.size : Int) * k ≤ sizeLine := by
        rw [List.size_toArray, ← hl]
        have : ((xs.length * k.toNat : Nat) : Int) ≤ (sizeLine : Int) := by exact_mod_cast hz
        rw [Int.natCast_mul] at this
        have e4 : ((k.toNat : Nat) : Int) = k := by omega
        rw [e4] at this
        exact this
      have hsl : (sizeLine : Int) = 16777216 := rfl
      refine call_meets PySem.F.slot_tuple_mul p.typeIs PySem.F.entry_tuple_mul (PySem.F.args_tuple_mul_2 _ _) (tuple_mul_new k t a its.toArray n dd sl e1 e2 ?_ ?_ ?_ ?_) ⟨ho, ?_⟩
      · rw [Bool.or_eq_false_iff]
        exact ⟨decide_eq_false e3, (Bool.or_eq_false_iff.mp e2).1⟩
      · generalize (its.toArray.size : Int) * k = m at hsz ⊢
        omega
      · unfold Builtin.Tuple.tupleTooMany
        exact decide_eq_false (by omega)
      · rw [show (#[] : Array Value) = ([] : List Value).toArray from rfl, ef, List.size_toArray, len_repl, ← hl, Nat.mul_comm]; exact hz
      · rw [show (#[] : Array Value) = ([] : List Value).toArray from rfl, ef]
        refine ⟨.ref s.heap.objs.size, _, I.laid (t' := s.toks) (o := .tup (List.replicate k.toNat xs).flatten) (fun b ob q => Heap.get?_push_of_some _ q) (Nat.le_refl _) ?_, rfl, q2⟩
        exact ⟨by rw [len_repl, Nat.mul_comm]; exact hz, _, Vals.repl r k.toNat, PyProof.Rows.IsTup.new _ _⟩
end
end J
namespace J
open PySem PySem.Spec L2

section
variable {X : Cx} {ct : List (Str × List Str)} {Wx : WX} {e a b : Expr} {es : List Expr} {f f1 f2 f3 : CE} {g : CA} {t t1 t2 : CT} {pos : Pos}

/-- t + u, t empty -/
theorem op_catT0 : OpR X (binaryOp .Add) (fun x y H Q => ∃ a b ys, x = .ref a ∧ y = .ref b ∧ H a = some (.tup []) ∧ H b = some (.tup ys) ∧ Q (.ref b) H) := by
  intro pins s σ H x y v u Q I rx ry h
  obtain ⟨a, b, ys, rfl, rfl, ha, hb, q⟩ := h
  cases rx
  cases ry
  obtain ⟨_, its, r, p⟩ := (show ObjOk X.prog X.w H s.heap a (.tup []) from I.hok a _ ha)
  obtain ⟨_, its2, r2, p2⟩ := (show ObjOk X.prog X.w H s.heap b (.tup ys) from I.hok b _ hb)
  cases r
  exact cat_tup0 p p2 ⟨.ref b, H, I, rfl, q⟩

theorem of_add : OpF X ct (binaryOp .Add) gAdd := by
  refine ⟨_, op_add.or (op_catT.or (op_catT0.or op_cat)), fun W0 H0 W σ H E M d1 d2 v1 v2 d Q rel l s1 s2 q k => ?_⟩
  unfold gAdd at q
  split at q
  · rename_i i j e1 e2
    cases q
    exact .inl ⟨i, j, see_int rel s1 e1, see_int rel s2 e2, k W H _ Ext.refl rel.toCRel (.int _) l⟩
  · rename_i as bs e1 e2
    split at q
    · rename_i hz
      cases q
      obtain ⟨p1, vs1, rfl, h1, r1, rfl⟩ := see_tup rel s1 e1
      obtain ⟨p2, vs2, rfl, h2, r2, rfl⟩ := see_tup rel s2 e2
      have hz' : vs1.length + vs2.length ≤ sizeLine := by rw [← r1.length, ← r2.length]; exact hz
      by_cases c : vs1 = []
      · subst c
        cases r1
        refine .inr (.inr (.inl ⟨p1, p2, vs2, rfl, rfl, h1, h2, k W H _ Ext.refl rel.toCRel ?_ l⟩))
        exact .tup h2 r2
      · refine .inr (.inl ⟨p1, p2, vs1, vs2, rfl, rfl, .of h1, .of h2, c, hz', fun z => ?_, fun z p hp => ?_⟩)
        · subst z
          cases r2
          refine k W H _ Ext.refl rel.toCRel ?_ l
          rw [List.append_nil]
          exact .tup h1 r1
        · have x := Ext.new (o := .tup (vs1 ++ vs2)) rel.toCRel hp
          exact k W _ _ x (rel.toCRel.new hp) (.tup upd_same ((r1.append r2).mono x.toExt0)) (l.new hp (fun _ q => by cases q) (fun _ q => by cases q; rw [List.length_append]; exact hz') fun _ _ q => by cases q)
    · cases q
  · rename_i as bs e1 e2
    split at q
    · rename_i hz
      cases q
      obtain ⟨p1, vs1, rfl, h1, r1⟩ := see_lst rel s1 e1
      obtain ⟨p2, vs2, rfl, h2, r2⟩ := see_lst rel s2 e2
      have hz' : vs1.length + vs2.length ≤ sizeLine := by rw [← r1.length, ← r2.length]; exact hz
      refine .inr (.inr (.inr ⟨p1, p2, vs1, vs2, rfl, rfl, h1, h2, hz', fun p hp => ?_⟩))
      have x := Ext.newZ (o := .lst (vs1 ++ vs2)) rel.toCRel hp
      exact k _ _ _ x (rel.toCRel.newZ hp) (.lst (.inr rfl) upd_same ((r1.append r2).mono x.toExt0)) (l.new hp (fun _ q => by cases q; rw [List.length_append]; exact hz') (fun _ q => by cases q) fun _ _ q => by cases q)
    · cases q
  · cases q

theorem Reps.repl {G : Gm} {W : Wd} {H : Hp} {ds : List D} {vs : List V} (r : Reps G W H ds vs) : ∀ n : Nat, Reps G W H (List.replicate n ds).flatten (List.replicate n vs).flatten
  | 0 => .nil
  | n + 1 => by
    rw [List.replicate_succ, List.flatten_cons, List.replicate_succ, List.flatten_cons]
    exact r.append (Reps.repl r n)
theorem small64_ok {a : Int} (h : small64 a = true) : -(2 ^ 64) < a ∧ a < 2 ^ 64 := by
  unfold small64 at h
  rw [Bool.and_eq_true] at h
  have h1 := of_decide_eq_true h.1
  have h2 := of_decide_eq_true h.2
  omega
theorem of_mul : OpF X ct (binaryOp .Mult) gMul := by
  refine ⟨_, op_mul.or (op_repT.or op_rep), fun W0 H0 W σ H E M d1 d2 v1 v2 d Q rel l s1 s2 q k => ?_⟩
  unfold gMul at q
  split at q
  · rename_i i j e1 e2
    split at q
    · rename_i c
      cases q
      refine .inl ⟨i, j, see_int rel s1 e1, see_int rel s2 e2, ?_, k W H _ Ext.refl rel.toCRel (.int _) l⟩
      rw [Bool.or_eq_true] at c
      exact c.imp small64_ok small64_ok
    · cases q
  · rename_i as j e1 e2
    split at q
    · rename_i hz
      cases q
      obtain ⟨p1, vs1, rfl, h1, r1, rfl⟩ := see_tup rel s1 e1
      obtain rfl := see_int rel s2 e2
      have hz' : vs1.length * j.toNat ≤ sizeLine := by rw [← r1.length]; exact hz.2
      have hb := hz.1
      unfold sizeMax at hb
      refine .inr (.inl ⟨p1, j, vs1, rfl, rfl, h1, by omega, by omega, hz', fun c => ?_, fun c p hp => ?_⟩)
      · refine k W H _ Ext.refl rel.toCRel ?_ l
        rcases c with c | c
        · subst c
          cases r1
          have : (List.replicate j.toNat ([] : List D)).flatten = [] := by
            induction j.toNat with
            | zero => rfl
            | succ n ih => rw [List.replicate_succ, List.flatten_cons, ih]; rfl
          rw [this]
          exact .tup h1 .nil
        · subst c
          have : (List.replicate (1 : Int).toNat as).flatten = as := by show (List.replicate 1 as).flatten = as; simp
          rw [this]
          exact .tup h1 r1
      · have x := Ext.new (o := .tup (List.replicate j.toNat vs1).flatten) rel.toCRel hp
        exact k W _ _ x (rel.toCRel.new hp) (.tup upd_same ((r1.repl _).mono x.toExt0)) (l.new hp (fun _ q => by cases q) (fun _ q => by cases q; rw [len_repl, Nat.mul_comm]; exact hz') fun _ _ q => by cases q)
    · cases q
  · rename_i as j e1 e2
    split at q
    · rename_i hz
      cases q
      obtain ⟨p1, vs1, rfl, h1, r1⟩ := see_lst rel s1 e1
      obtain rfl := see_int rel s2 e2
      have hz' : vs1.length * j.toNat ≤ sizeLine := by rw [← r1.length]; exact hz.2
      have hb := hz.1
      unfold sizeMax at hb
      refine .inr (.inr ⟨p1, j, vs1, rfl, rfl, h1, by omega, by omega, hz', fun p hp => ?_⟩)
      have x := Ext.newZ (o := .lst (List.replicate j.toNat vs1).flatten) rel.toCRel hp
      exact k _ _ _ x (rel.toCRel.newZ hp) (.lst (.inr rfl) upd_same ((r1.repl _).mono x.toExt0)) (l.new hp (fun _ q => by cases q; rw [len_repl, Nat.mul_comm]; exact hz') (fun _ q => by cases q) fun _ _ q => by cases q)
    · cases q
  · cases q

/-! ### is None -/
theorem rep_non {G : Gm} {W : Wd} {H : Hp} {d : D} {v : V} (r : Rep G W H d v) : decide (v = .non) = isNon d := by
  cases r <;> rfl
theorem seen_non {G : Gm} {W0 W : Wd} {H0 H : Hp} {σ : L2.St} {E : Env} {M : Mem} {d : D} {v : V} (r : Rel G W0 H0 W σ H E M) (s : Seen G W H σ E d v) : decide (v = .non) = isNon (view M d) := by
  rcases r.seen s with ⟨a, c, e, q, _⟩ | ⟨q, h⟩
  · subst e
    rw [q]
    cases c <;> rfl
  · rw [q]; exact rep_non h
theorem isN_eq {a b d : D} (h : (match b with | .non => gIsN a | _ => none) = some d) : b = .non ∧ d = .bl (isNon a) := by
  split at h
  · cases h; exact ⟨rfl, rfl⟩
  · cases h
end

/-! ### == of data -/
mutual
def toPy : D → PyData
  | .non => .none
  | .bl b => .bool b
  | .int i => .int i
  | .str x => .str x
  | .lst ds => .list (toPys ds)
  | .tup ds => .tuple (toPys ds)
  | _ => .none
def toPys : List D → List PyData
  | [] => []
  | d :: ds => toPy d :: toPys ds
end
section
variable {G : Gm} {W : Wd} {H : Hp}
mutual
theorem rep_dp : ∀ {n : Nat} {d : D} {v : V}, Rep G W H d v → flatD n d = true → Dp G.K H v (toPy d)
  | _, .non, _, .non, _ => .non
  | _, .bl _, _, .bl b, _ => .bl b
  | _, .int _, _, .int b, _ => .int b
  | _, .str _, _, .str b, _ => .str b
  | n + 1, .tup _, _, .tup h r, f => .tup (.of h) (reps_dp r (by simpa [flatD] using f))
  | n + 1, .lst _, _, .lst z h r, f => .lst (.of h) (reps_dp r (by simpa [flatD] using f))
theorem reps_dp : ∀ {n : Nat} {ds : List D} {vs : List V}, Reps G W H ds vs → flatDs n ds = true → DpAll G.K H vs (toPys ds)
  | _, [], _, .nil, _ => .nil
  | n, _ :: _, _, .cons h t, f => by
    rw [flatDs, Bool.and_eq_true] at f
    exact .cons (rep_dp h f.1) (reps_dp t f.2)
end
end
mutual
theorem flat_can : ∀ {n : Nat} {d : D}, flatD n d = true → (toPy d).canLay0 = true ∧ (toPy d).depth ≤ n
  | _, .non, _ => ⟨rfl, Nat.zero_le _⟩
  | _, .bl _, _ => ⟨rfl, Nat.zero_le _⟩
  | _, .int _, _ => ⟨rfl, Nat.zero_le _⟩
  | 0, .str x, f => ⟨by unfold flatD at f; exact f, Nat.zero_le _⟩
  | n + 1, .str x, f => ⟨by unfold flatD at f; exact f, Nat.zero_le _⟩
  | n + 1, .tup ds, f => by
    obtain ⟨h1, h2⟩ := flats_can (n := n) (ds := ds) (by simpa [flatD] using f)
    exact ⟨h1, Nat.succ_le_succ h2⟩
  | n + 1, .lst ds, f => by
    obtain ⟨h1, h2⟩ := flats_can (n := n) (ds := ds) (by simpa [flatD] using f)
    exact ⟨h1, Nat.succ_le_succ h2⟩
theorem flats_can : ∀ {n : Nat} {ds : List D}, flatDs n ds = true → PyData.canLayAll0 (toPys ds) = true ∧ PyData.depthAll (toPys ds) ≤ n
  | _, [], _ => ⟨rfl, Nat.zero_le _⟩
  | n, d :: ds, f => by
    rw [flatDs, Bool.and_eq_true] at f
    obtain ⟨h1, h2⟩ := flat_can f.1
    obtain ⟨h3, h4⟩ := flats_can f.2
    exact ⟨by show (_ && _) = true; rw [h1, h3]; rfl, Nat.max_le.mpr ⟨h2, h4⟩⟩
end
theorem flat_shaped {d : D} (f : flatD 64 d = true) : SeqAt.shaped (toPy d) = true := by
  obtain ⟨h1, h2⟩ := flat_can f
  unfold SeqAt.shaped
  rw [h1, decide_eq_true h2]
  rfl
mutual
theorem eqv_eqD : ∀ {n m : Nat} {a b : D}, flatD n a = true → flatD m b = true → PyData.eqv (toPy a) (toPy b) = eqD a b
  | n, m, a, b, fa, fb => by
    cases a with
    | tup as =>
      cases n with
      | zero => cases fa
      | succ n =>
        cases b with
        | tup bs =>
          cases m with
          | zero => cases fb
          | succ m => exact eqvs_eqDs (n := n) (m := m) (by simpa [flatD] using fa) (by simpa [flatD] using fb)
        | lst bs => cases m <;> rfl
        | non => rfl
        | bl _ => rfl
        | int _ => rfl
        | str _ => rfl
        | _ => cases m <;> cases fb
    | lst as =>
      cases n with
      | zero => cases fa
      | succ n =>
        cases b with
        | lst bs =>
          cases m with
          | zero => cases fb
          | succ m => exact eqvs_eqDs (n := n) (m := m) (by simpa [flatD] using fa) (by simpa [flatD] using fb)
        | tup bs => cases m <;> rfl
        | non => rfl
        | bl _ => rfl
        | int _ => rfl
        | str _ => rfl
        | _ => cases m <;> cases fb
    | non => cases b <;> first | rfl | (cases m <;> cases fb)
    | bl _ => cases b <;> first | rfl | (cases m <;> cases fb)
    | int _ => cases b <;> first | rfl | (cases m <;> cases fb)
    | str _ => cases b <;> first | rfl | (cases m <;> cases fb)
    | _ => cases n <;> cases fa
theorem eqvs_eqDs : ∀ {n m : Nat} {as bs : List D}, flatDs n as = true → flatDs m bs = true → PyData.eqvAll (toPys as) (toPys bs) = eqDs as bs
  | _, _, [], [], _, _ => rfl
  | _, _, [], _ :: _, _, _ => rfl
  | _, _, _ :: _, [], _, _ => rfl
  | n, m, a :: as, b :: bs, fa, fb => by
    rw [flatDs, Bool.and_eq_true] at fa fb
    show (PyData.eqv (toPy a) (toPy b) && PyData.eqvAll (toPys as) (toPys bs)) = (eqD a b && eqDs as bs)
    rw [eqv_eqD fa.1 fb.1, eqvs_eqDs fa.2 fb.2]
end

section
variable {X : Cx} {ct : List (Str × List Str)} {Wx : WX} {e a b : Expr} {es : List Expr} {f f1 f2 f3 : CE} {g : CA} {t t1 t2 : CT} {pos : Pos}
theorem view_flat {G : Gm} {W0 W : Wd} {H0 H : Hp} {σ : L2.St} {E : Env} {M : Mem} {d : D} {v : V} (r : Rel G W0 H0 W σ H E M) (s : Seen G W H σ E d v) (f : flatD 64 (view M d) = true) : Dp G.K H v (toPy (view M d)) := by
  rcases r.seen s with ⟨a, c, ev, q, h⟩ | ⟨q, h⟩
  · rw [q] at f ⊢
    subst ev
    cases c with
    | lst ds =>
      obtain ⟨vs, h1, h2⟩ := h
      exact .lst (.of h1) (reps_dp (n := 63) h2 (by simpa [flatD] using f))
    | _ => cases f
  · rw [q] at f ⊢
    exact rep_dp h f
theorem of_eq (hu : X.A.units + 64 < cLine) : OpF X ct (compareOp .Eq) gEq := by
  refine ⟨_, op_eq.or (op_eqD hu), fun W0 H0 W σ H E M d1 d2 v1 v2 d Q rel l s1 s2 q k => ?_⟩
  unfold gEq at q
  split at q
  · rename_i i j e1 e2
    cases q
    obtain rfl := see_int rel s1 e1
    obtain rfl := see_int rel s2 e2
    refine .inl ⟨rfl, k W H _ Ext.refl rel.toCRel ?_ l⟩
    rw [dec_int, Bool.beq_eq_decide_eq]
    exact .bl _
  · rename_i i j e1 e2
    cases q
    obtain rfl := see_str rel s1 e1
    obtain rfl := see_str rel s2 e2
    refine .inl ⟨rfl, k W H _ Ext.refl rel.toCRel ?_ l⟩
    have : decide (V.str i = V.str j) = decide (i = j) := by simp
    rw [this]
    exact .bl _
  · split at q
    · rename_i c
      rw [Bool.and_eq_true] at c
      cases q
      refine .inr ⟨_, _, view_flat rel s1 c.1, view_flat rel s2 c.2, flat_shaped c.1, flat_shaped c.2, k W H _ Ext.refl rel.toCRel ?_ l⟩
      rw [eqv_eqD c.1 c.2]
      exact .bl _
    · cases q
theorem of_ne (hu : X.A.units + 64 < cLine) : OpF X ct (compareOp .NotEq) gNe := by
  refine ⟨_, op_ne.or (op_neD hu), fun W0 H0 W σ H E M d1 d2 v1 v2 d Q rel l s1 s2 q k => ?_⟩
  unfold gNe at q
  split at q
  · rename_i i j e1 e2
    cases q
    obtain rfl := see_int rel s1 e1
    obtain rfl := see_int rel s2 e2
    refine .inl ⟨rfl, k W H _ Ext.refl rel.toCRel ?_ l⟩
    rw [dec_int, Bool.beq_eq_decide_eq]
    exact .bl _
  · rename_i i j e1 e2
    cases q
    obtain rfl := see_str rel s1 e1
    obtain rfl := see_str rel s2 e2
    refine .inl ⟨rfl, k W H _ Ext.refl rel.toCRel ?_ l⟩
    have : decide (V.str i = V.str j) = decide (i = j) := by simp
    rw [this]
    exact .bl _
  · split at q
    · rename_i c
      rw [Bool.and_eq_true] at c
      cases q
      refine .inr ⟨_, _, view_flat rel s1 c.1, view_flat rel s2 c.2, flat_shaped c.1, flat_shaped c.2, k W H _ Ext.refl rel.toCRel ?_ l⟩
      rw [eqv_eqD c.1 c.2]
      exact .bl _
    · cases q

/-! ### in -/
theorem flat1_v {G : Gm} {W0 W : Wd} {H0 H : Hp} {σ : L2.St} {E : Env} {M : Mem} {d : D} {v : V} (r : Rel G W0 H0 W σ H E M) (s : Seen G W H σ E d v) (f : flat1 (view M d) = true) : flatV v = true ∧ Rep G W H (view M d) v := by
  rcases r.seen s with ⟨a, c, ev, q, h⟩ | ⟨q, h⟩
  · rw [q] at f
    cases c <;> cases f
  · rw [q] at f ⊢
    exact ⟨by (cases h <;> first | rfl | cases f), h⟩
theorem rep_eqV {G : Gm} {W : Wd} {H : Hp} {a b : D} {u v : V} (ha : Rep G W H a u) (hb : Rep G W H b v) (fa : flat1 a = true) (fb : flat1 b = true) : eqV u v = eqD a b := by
  cases ha <;> first | (cases fa; done) | (cases hb <;> first | rfl | (cases fb; done))
theorem reps_any {G : Gm} {W : Wd} {H : Hp} {x : D} {v : V} (hx : Rep G W H x v) (fx : flat1 x = true) : ∀ {ds : List D} {vs : List V}, Reps G W H ds vs → ds.all flat1 = true → vs.all flatV = true ∧ inV v vs = ds.any fun y => eqD y x
  | [], _, .nil, _ => ⟨rfl, rfl⟩
  | d :: ds, _, .cons h t, f => by
    rw [List.all_cons, Bool.and_eq_true] at f
    obtain ⟨h1, h2⟩ := reps_any hx fx t f.2
    have h3 := rep_eqV h hx f.1 fx
    refine ⟨?_, ?_⟩
    · rw [List.all_cons, h1, Bool.and_true]
      (cases h <;> first | rfl | cases f.1)
    · show (_ || _) = _
      rw [List.any_cons, ← h3, ← h2]
      rfl
/-- x in d of a dict of ints and texts -/
theorem op_in_dict (hu : X.A.units + 1 < cLine) : OpR X (compareOp .In) (fun y x H Q => ∃ a o, x = .ref a ∧ DGet H a y o ∧ Q (.bl o.isSome) H) := by
  intro pins s σ H y x iv u Q I ry rx h
  obtain ⟨a, ov, ex, g, q2⟩ := h
  subst ex
  obtain rfl : u = Value.ref a := rx
  exact d_in hu I g ry fun s3 I3 => ⟨.bl ov.isSome, H, I3, rfl, q2⟩
theorem op_notIn_dict (hu : X.A.units + 1 < cLine) : OpR X (compareOp .NotIn) (fun y x H Q => ∃ a o, x = .ref a ∧ DGet H a y o ∧ Q (.bl (!o.isSome)) H) := by
  intro pins s σ H y x iv u Q I ry rx h
  obtain ⟨a, ov, ex, g, q2⟩ := h
  subst ex
  obtain rfl : u = Value.ref a := rx
  exact d_notIn hu I g ry fun s3 I3 => ⟨.bl (!ov.isSome), H, I3, rfl, q2⟩

theorem in_case {W0 W : Wd} {H0 H : Hp} {σ : L2.St} {E : Env} {M : Mem} {d1 d2 d : D} {v1 v2 : V} (rel : Rel (Gx X ct) W0 H0 W σ H E M) (s1 : Seen (Gx X ct) W H σ E d1 v1) (s2 : Seen (Gx X ct) W H σ E d2 v2) (q : gIn (view M d1) (view M d2) = some d) :
    ∃ b, d = .bl b ∧ ((∃ p xs, v2 = .ref p ∧ (SqL X.K H p xs ∨ SqT X.K H p xs) ∧ flatV v1 = true ∧ xs.all flatV = true ∧ inV v1 xs = b) ∨ (∃ a o, v2 = .ref a ∧ DGet H a v1 o ∧ o.isSome = b)) := by
  unfold gIn at q
  split at q
  · rename_i ds e2
    split at q
    · rename_i c
      rw [Bool.and_eq_true] at c
      cases q
      obtain ⟨p, vs, rfl, h, r, _⟩ := see_tup rel s2 e2
      obtain ⟨f1, r1⟩ := flat1_v rel s1 c.1
      obtain ⟨f2, e3⟩ := reps_any r1 c.1 r c.2
      exact ⟨_, rfl, .inl ⟨p, vs, rfl, .inr (.of h), f1, f2, e3⟩⟩
    · cases q
  · rename_i ds e2
    split at q
    · rename_i c
      rw [Bool.and_eq_true] at c
      cases q
      obtain ⟨p, vs, rfl, h, r⟩ := see_lst rel s2 e2
      obtain ⟨f1, r1⟩ := flat1_v rel s1 c.1
      obtain ⟨f2, e3⟩ := reps_any r1 c.1 r c.2
      exact ⟨_, rfl, .inl ⟨p, vs, rfl, .inl (.of h), f1, f2, e3⟩⟩
    · cases q
  · rename_i i kvs e1 e2
    cases q
    obtain ⟨a, vs, rfl, h, hk, r⟩ := see_dK rel s2 e2
    obtain rfl := see_int rel s1 e1
    refine ⟨_, rfl, .inr ⟨a, valV vs (.inl i), rfl, .inl ⟨vs, .inl i, h, rfl, rfl⟩, ?_⟩⟩
    rw [any_look]
    cases q : look kvs (Sum.inl i) with
    | none => rw [(reps_look hk r).2 q]; rfl
    | some d => obtain ⟨v, e, _⟩ := (reps_look hk r).1 q; rw [e]; rfl
  · rename_i i kvs e1 e2
    cases q
    obtain ⟨a, vs, rfl, h, hk, r⟩ := see_dK rel s2 e2
    obtain rfl := see_str rel s1 e1
    refine ⟨_, rfl, .inr ⟨a, valV vs (.inr i), rfl, .inl ⟨vs, .inr i, h, rfl, rfl⟩, ?_⟩⟩
    rw [any_look]
    cases q : look kvs (Sum.inr i) with
    | none => rw [(reps_look hk r).2 q]; rfl
    | some d => obtain ⟨v, e, _⟩ := (reps_look hk r).1 q; rw [e]; rfl
  · rename_i ds kvs e1 e2
    rw [Option.map_eq_some_iff] at q
    obtain ⟨ks, e3, rfl⟩ := q
    obtain ⟨a, vs, rfl, h, hk, r⟩ := see_dT rel s2 e2
    obtain ⟨p, us, rfl, h1, r1, _⟩ := see_tup rel s1 e1
    obtain rfl := reps_keys r1 e3
    refine ⟨_, rfl, .inr ⟨a, valV vs ks, rfl, .inr ⟨vs, ks, p, h, rfl, h1, rfl⟩, ?_⟩⟩
    rw [any_look]
    cases q : look kvs ks with
    | none => rw [(reps_look hk r).2 q]; rfl
    | some d => obtain ⟨v, e, _⟩ := (reps_look hk r).1 q; rw [e]; rfl
  · cases q
theorem of_in (hu : X.A.units + 1 < cLine) : OpF X ct (compareOp .In) gIn := by
  refine ⟨_, op_in_seq.or (op_in_dict hu), fun W0 H0 W σ H E M d1 d2 v1 v2 d Q rel l s1 s2 q k => ?_⟩
  obtain ⟨b, rfl, h | h⟩ := in_case rel s1 s2 q
  · obtain ⟨p, xs, rfl, h1, h2, h3, rfl⟩ := h
    exact .inl ⟨p, xs, rfl, h1, h2, h3, k W H _ Ext.refl rel.toCRel (.bl _) l⟩
  · obtain ⟨a, o, rfl, h1, rfl⟩ := h
    exact .inr ⟨a, o, rfl, h1, k W H _ Ext.refl rel.toCRel (.bl _) l⟩
theorem of_notIn (hu : X.A.units + 1 < cLine) : OpF X ct (compareOp .NotIn) gNotIn := by
  refine ⟨_, op_notIn_seq.or (op_notIn_dict hu), fun W0 H0 W σ H E M d1 d2 v1 v2 d Q rel l s1 s2 q k => ?_⟩
  unfold gNotIn at q
  rw [Option.bind_eq_some_iff] at q
  obtain ⟨d', q, q'⟩ := q
  obtain ⟨b, rfl, h | h⟩ := in_case rel s1 s2 q
  · obtain ⟨p, xs, rfl, h1, h2, h3, rfl⟩ := h
    cases q'
    exact .inl ⟨p, xs, rfl, h1, h2, h3, k W H _ Ext.refl rel.toCRel (.bl _) l⟩
  · obtain ⟨a, o, rfl, h1, rfl⟩ := h
    cases q'
    exact .inr ⟨a, o, rfl, h1, k W H _ Ext.refl rel.toCRel (.bl _) l⟩

/-! ### is None -/
theorem pf_un {r : V → Hp → VK → Prop} {gg : D → Option D} {e' : Expr} (hb : PE X e' (tUn r (tO (Gx X ct) Wx f)))
    (hr : ∀ W0 H0 W σ H E M d1 v1 d Q, Rel (Gx X ct) W0 H0 W σ H E M → LenOk H → Seen (Gx X ct) W H σ E d1 v1 → gg (view M d1) = some d →
      (∀ W' H' v, Ext W H W' H' → CRel (Gx X ct) W' H' M → Rep (Gx X ct) W' H' d v → LenOk H' → Q v H') → r v1 H Q) : PF X ct Wx e' (c1 gg f) := by
  refine PE.fin hb ?_
  rintro σ H Q l ⟨W0, H0, W, E, M, rel, p⟩
  refine ⟨W0, H0, W, E, M, rel, Post.bind p fun d1 M1 W1 H1 v1 _ x1 rel1 p1 l1 p => ?_⟩
  cases q : gg (view M1 d1) with
  | none => rw [q] at p; exact p.elim
  | some d =>
    rw [q] at p
    exact hr W0 H0 W1 σ H1 E M1 d1 v1 d _ rel1 l1 p1 q fun W' H' v x' c' r' l' l'' => p W' H' v x' (rel1.after x' c') r' l''
theorem PE.weak {e' : Expr} {t t' : TE} (h : PE X e' t) (hw : ∀ σ H Q, t' σ H Q → t σ H Q) : PE X e' t' := ⟨fun pins s σ H Q I q => h.run pins s σ H Q I (hw σ H Q q)⟩
theorem pf_isN {j pos'} (ha : POf X ct Wx a f) : PF X ct Wx (.Compare a [.Is] [.Constant .none j pos'] pos) (c1 gIsN f) := by
  refine pf_un (r := fun x H Q => Q (.bl (decide (x = .non))) H) (pe_cmp (pc_isN ha) rfl) fun W0 H0 W σ H E M d1 v1 d Q rel l s1 q k => ?_
  cases q
  rw [seen_non rel s1]
  exact k W H _ Ext.refl rel.toCRel (.bl _) l
theorem pf_notN {j pos'} (ha : POf X ct Wx a f) : PF X ct Wx (.Compare a [.IsNot] [.Constant .none j pos'] pos) (c1 gNotN f) := by
  refine pf_un (r := fun x H Q => Q (.bl (!decide (x = .non))) H) (pe_cmp (pc_notN ha) rfl) fun W0 H0 W σ H E M d1 v1 d Q rel l s1 q k => ?_
  cases q
  rw [seen_non rel s1]
  exact k W H _ Ext.refl rel.toCRel (.bl _) l
theorem pf_neg (ha : POf X ct Wx a f) : PF X ct Wx (.UnaryOp .USub a pos) (c1 gNeg f) := by
  refine pf_un (pe_un un_neg ha) fun W0 H0 W σ H E M d1 v1 d Q rel l s1 q k => ?_
  unfold gNeg at q
  split at q
  · rename_i i e
    cases q
    exact ⟨i, see_int rel s1 e, k W H _ Ext.refl rel.toCRel (.int _) l⟩
  · cases q

/-! ### tests -/
theorem pt_v {e' : Expr} {f : CE} (h : PF X ct Wx e' f) (he : ∀ whole, isTrue e' X.env whole = (do let v ← whole; standAt e'.pos; holding [v] (truthy v)) := by intro _; rfl) : PTf X ct Wx e' (tV f) := by
  refine PT.fin (pt_val h he) ?_
  rintro σ H Q l ⟨W0, H0, W, E, M, rel, p⟩
  refine ⟨W0, H0, W, E, M, rel, Post.bind p fun d1 M1 W1 H1 v1 _ x1 rel1 p1 l1 p => ?_⟩
  cases p1 with
  | bl k => exact ⟨k, rfl, fun l'' => p W1 H1 k Ext.refl rel1 rfl l1⟩
  | _ => exact p.elim
theorem pt_isN {j pos'} (ha : POf X ct Wx a f) : PTf X ct Wx (.Compare a [.Is] [.Constant .none j pos'] pos) (tV (c1 gIsN f)) := by
  refine PT.fin (pt_cmp (pc_isN ha) rfl) ?_
  rintro σ H Q l ⟨W0, H0, W, E, M, rel, p⟩
  refine ⟨W0, H0, W, E, M, rel, ?_⟩
  have p' : Post (Gx X ct) Wx RpB W0 H0 W H σ E ((f E M).bind fun d M => .ok (isNon (view M d)) M) Q := by
    dsimp only [tV, c1] at p
    cases h : f E M <;> rw [h] at p <;> exact p
  refine Post.bind p' fun d1 M1 W1 H1 v1 _ x1 rel1 p1 l1 p => ?_
  refine ⟨_, rfl, fun l'' => ?_⟩
  rw [seen_non rel1 p1]
  exact p W1 H1 _ Ext.refl rel1 rfl l1
theorem pt_notN {j pos'} (ha : POf X ct Wx a f) : PTf X ct Wx (.Compare a [.IsNot] [.Constant .none j pos'] pos) (tV (c1 gNotN f)) := by
  refine PT.fin (pt_cmp (pc_notN ha) rfl) ?_
  rintro σ H Q l ⟨W0, H0, W, E, M, rel, p⟩
  refine ⟨W0, H0, W, E, M, rel, ?_⟩
  have p' : Post (Gx X ct) Wx RpB W0 H0 W H σ E ((f E M).bind fun d M => .ok (!isNon (view M d)) M) Q := by
    dsimp only [tV, c1] at p
    cases h : f E M <;> rw [h] at p <;> exact p
  refine Post.bind p' fun d1 M1 W1 H1 v1 _ x1 rel1 p1 l1 p => ?_
  refine ⟨_, rfl, fun l'' => ?_⟩
  rw [seen_non rel1 p1]
  exact p W1 H1 _ Ext.refl rel1 rfl l1
theorem pt_not' (ha : PTf X ct Wx a t) : PTf X ct Wx (.UnaryOp .Not a pos) (tNot t) := by
  refine PT.fin (pt_not ha) ?_
  rintro σ H Q l ⟨W0, H0, W, E, M, rel, p⟩
  exact ⟨W0, H0, W, E, M, rel, Post.bind p fun d1 M1 W1 H1 v1 _ x1 rel1 p1 l1 p => by cases p1; exact fun l'' => p W1 H1 _ Ext.refl rel1 rfl l1⟩
theorem pw_and1' (ha : PTf X ct Wx a t) : PWf X ct Wx (.BoolOp .And [a] pos) t := pw_and1 ha
theorem pw_or1' (ha : PTf X ct Wx a t) : PWf X ct Wx (.BoolOp .Or [a] pos) t := pw_or1 ha
theorem pw_and' {rest : List Expr} (ha : PTf X ct Wx a t1) (hb : PWf X ct Wx (.BoolOp .And (b :: rest) pos) t2) : PWf X ct Wx (.BoolOp .And (a :: b :: rest) pos) (tAnd t1 t2) := by
  refine PW.fin (pw_and ha hb) ?_
  rintro σ H Q l ⟨W0, H0, W, E, M, rel, p⟩
  refine ⟨W0, H0, W, E, M, rel, Post.bind p fun d1 M1 W1 H1 v1 _ x1 rel1 p1 l1 p => ?_⟩
  cases p1
  cases d1 with
  | true =>
    refine iteT ⟨W0, H0, W1, E, M1, rel1, ?_⟩
    have p' : Post (Gx X ct) Wx RpB W0 H0 W1 H1 σ E (t2 E M1) Q := p
    cases h : t2 E M1 with
    | ok b M2 => rw [h] at p'; exact fun W' H' v x r p l _ => p' W' H' v x r p l
    | exc c ds M2 => rw [h] at p'; exact p'
    | bad => rw [h] at p'; exact p'
  | false => exact iteF fun l'' => p W1 H1 _ Ext.refl rel1 rfl l1
theorem pw_or' {rest : List Expr} (ha : PTf X ct Wx a t1) (hb : PWf X ct Wx (.BoolOp .Or (b :: rest) pos) t2) : PWf X ct Wx (.BoolOp .Or (a :: b :: rest) pos) (tOr t1 t2) := by
  refine PW.fin (pw_or ha hb) ?_
  rintro σ H Q l ⟨W0, H0, W, E, M, rel, p⟩
  refine ⟨W0, H0, W, E, M, rel, Post.bind p fun d1 M1 W1 H1 v1 _ x1 rel1 p1 l1 p => ?_⟩
  cases p1
  cases d1 with
  | false =>
    refine iteF ⟨W0, H0, W1, E, M1, rel1, ?_⟩
    have p' : Post (Gx X ct) Wx RpB W0 H0 W1 H1 σ E (t2 E M1) Q := p
    cases h : t2 E M1 with
    | ok b M2 => rw [h] at p'; exact fun W' H' v x r p l _ => p' W' H' v x r p l
    | exc c ds M2 => rw [h] at p'; exact p'
    | bad => rw [h] at p'; exact p'
  | true => exact iteT fun l'' => p W1 H1 _ Ext.refl rel1 rfl l1
end
end J
namespace J
open PySem PySem.Spec L2

/-! ### t[:], the whole -/
section
variable {prog : Program} {w : World} {A : Around} {E : Value → Shared → Prop} {s : Shared}
theorem getItem_tuple_whole {t sl : Addr} {items : Array Value} {vl vu : Value} {lo hi : Option Int} {Q : Value → Shared → Prop} (ht : PyProof.Rows.IsTup s.heap t items) (hs : s.heap.IsSliceOf sl vl vu .none) (pl : IsPart vl lo) (pu : IsPart vu hi)
    (hw : HT.sIx items.size 0 lo = 0 ∧ HT.sIx items.size items.size hi = items.size) (h : Q (.ref t) s) : wpAny (model prog w) A (getItem (.ref t) (.ref sl)) Q E s := by
  obtain ⟨os, hos, hcs, hds⟩ := id hs
  have hTs : s.TypeIs (.ref sl) "slice" := ⟨os, hos, hcs⟩
  unfold getItem
  try with_reducible refine wpAny_holding ?_
  first | refine wpAny_bind (wpAny_pure ?_) | skip
  refine wpAny_bind (wpAny_sequenceKey ht.typeIs (by decide) ?_)
  refine wpAny_bind (wpAny_callSpecial?_slot (name := Str.ofString "__getitem__") ht.typeIs PyProof.Rows.slot_tuple_getitem
    (wpAny_call_entry PyProof.Rows.slot_tuple_getitem ht.typeIs PyProof.Rows.entry_tuple_getitem ?_ (PyProof.Rows.args_tuple_getitem _ _)))
  show wpAny _ _ (Builtin.Tuple.tupleItemsOf (.ref t) >>= _) _ _ s
  refine wpAny_bind (PyProof.Rows.tupleItemsOf_ ht ?_)
  refine wpAny_bind (wpAny_typeOf hTs ?_)
  rw [if_pos (by decide)]
  refine wpAny_bind (HT.sliceApplied_gen hs pl pu ?_)
  show wpAny _ _ (if (((HT.sIx items.size 0 lo : Nat) : Int) == 0 && (1 : Int) == 1 && (HT.sIx items.size items.size hi - HT.sIx items.size 0 lo) == items.size) = true then _ else _) _ _ s
  rw [if_pos (by rw [hw.1, hw.2]; simp)]
  refine wpAny_bind (m := Builtin.Tuple.tupleIsExact _) ?_
  unfold Builtin.Tuple.tupleIsExact
  refine wpAny_bind (wpAny_typeOf ht.typeIs (wpAny_pure ?_))
  rw [if_pos (by decide)]
  exact wpAny_bind (wpAny_rule (wpAny_pure ⟨_, rfl, wpAny_pure h⟩))
end

section
variable {X : Cx} {ct : List (Str × List Str)} {Wx : WX} {e a b : Expr} {es : List Expr} {f f1 f2 f3 : CE} {g : CA} {t t1 t2 : CT} {pos p2 : Pos} {lo hi : Option Expr}

/-! ### slices -/
abbrev RpO : Wd → Hp → Option Int → Option Int → Prop := fun _ _ b c => b = c
def tOf (G : Gm) (Wx : WX) (f : CO) : L2.TO := fun σ H Q => ∃ W0 H0 W E M, Rel G W0 H0 W σ H E M ∧ Post G Wx RpO W0 H0 W H σ E (f E M) Q
abbrev PPart (X : Cx) (ct : List (Str × List Str)) (Wx : WX) (eo : Option Expr) (f : CO) : Prop := L2.PO X eo (tOf (Gx X ct) Wx f)
theorem PO_fin {X : Cx} {e : Option Expr} {t t' : L2.TO} (h : L2.PO X e t) (hw : ∀ σ H Q, LenOk H → t' σ H Q → t σ H (fun v H' => LenOk H' → Q v H')) : L2.PO X e t' :=
  ⟨fun pins s σ H Q I q => thn (h.run pins s σ H _ I (hw σ H Q (lenOk_of I) q)) fun _ _ ⟨o, H', I', r, q'⟩ => ⟨o, H', I', r, q' (lenOk_of I')⟩⟩
theorem part_none : PPart X ct Wx none oNone := by
  refine PO_fin L2.po_none ?_
  rintro σ H Q l ⟨W0, H0, W, E, M, rel, p⟩
  exact fun l' => p W H none Ext.refl rel rfl l'
theorem part_some (h : PF X ct Wx e f) : PPart X ct Wx (some e) (oSome f) := by
  refine PO_fin (L2.po_some h) ?_
  rintro σ H Q l ⟨W0, H0, W, E, M, rel, p⟩
  refine ⟨W0, H0, W, E, M, rel, Post.bind p fun d1 M1 W1 H1 v1 _ x1 rel1 p1 l1 p => ?_⟩
  cases p1 with
  | int i => exact ⟨i, rfl, fun l'' => p W1 H1 _ Ext.refl rel1 rfl l1⟩
  | _ => exact p.elim

theorem sIx_eq (n d : Nat) (o : Option Int) : J.sIx n d o = HT.sIx n d o := by cases o <;> rfl
theorem cut_eq {G : Gm} {W : Wd} {H : Hp} {ds : List D} {vs : List V} (r : Reps G W H ds vs) (lo hi : Option Int) : Reps G W H (cutD ds lo hi) (cutV vs lo hi) := by
  unfold cutD cutV
  rw [sIx_eq, sIx_eq, r.length]
  exact (r.drop _).take _
def rSlTw : V → Option Int → Option Int → Hp → VK → Prop := fun x lo hi H Q => ∃ a xs, x = .ref a ∧ H a = some (.tup xs) ∧ (HT.sIx xs.length 0 lo = 0 ∧ HT.sIx xs.length xs.length hi = xs.length) ∧ Q (.ref a) H
theorem sl_tupW : SlR X rSlTw := by
  intro pins s σ H x v vl vu lo hi sl Q I rx hs pl pu h
  obtain ⟨a, xs, rfl, hx, hw, q⟩ := h
  cases rx
  obtain ⟨hz, its, r, ht⟩ := (show ObjOk X.prog X.w H s.heap a (.tup xs) from I.hok a _ hx)
  have hlen : its.toArray.size = xs.length := by rw [List.size_toArray]; exact r.length.symm
  refine ⟨"tuple", _, PyProof.Rows.slot_tuple_getitem.lookup, ht.typeIs, ?_⟩
  exact getItem_tuple_whole ht hs pl pu (by rw [hlen]; exact hw) ⟨.ref a, H, I, rfl, q⟩
theorem pf_sl {o1 o2 : CO} (ha : POf X ct Wx a f) (hl : PPart X ct Wx lo o1) (hu : PPart X ct Wx hi o2) : PF X ct Wx (.Subscript a (.Slice lo hi none p2) pos) (cSl f o1 o2) := by
  refine PE.fin (pe_slice (sl_tup.or (sl_tupW.or sl_list)) ha hl hu) ?_
  rintro σ H Q l ⟨W0, H0, W, E, M, rel, p⟩
  refine ⟨W0, H0, W, E, M, rel, Post.bind p fun d1 M1 W1 H1 v1 _ x1 rel1 p1 l1 p => ?_⟩
  refine ⟨W0, H0, W1, E, M1, rel1, Post.bind p fun o1 M2 W2 H2 o1' _ x2 rel2 p2 l2 p => ?_⟩
  refine ⟨W0, H0, W2, E, M2, rel2, Post.bind p fun o2 M3 W3 H3 o2' _ x3 rel3 p3 l3 p => ?_⟩
  cases p2
  cases p3
  have s1 := (p1.mono x2.toExt0).mono x3.toExt0
  cases q : gSl (view M3 d1) o1 o2 with
  | none => rw [q] at p; exact p.elim
  | some d =>
    rw [q] at p
    unfold gSl at q
    split at q
    · rename_i ds e1
      cases q
      obtain ⟨pa, vs, rfl, h, r, _⟩ := see_tup rel3 s1 e1
      have rc := cut_eq r o1 o2
      by_cases c : HT.sIx vs.length 0 o1 = 0 ∧ HT.sIx vs.length vs.length o2 = vs.length
      · refine .inr (.inl ⟨pa, vs, rfl, h, c, fun l'' => p W3 H3 _ Ext.refl rel3 (.tup h ?_) l3⟩)
        have : cutV vs o1 o2 = vs := by
          unfold cutV
          rw [c.1, c.2]
          simp
        rw [this] at rc
        exact rc
      · refine .inl ⟨pa, vs, rfl, .of h, c, fun z hz l'' => ?_⟩
        have x := Ext.new (o := .tup (cutV vs o1 o2)) rel3.toCRel hz
        exact p W3 _ _ x (rel3.after x (rel3.toCRel.new hz)) (.tup upd_same (rc.mono x.toExt0)) l''
    · rename_i ds e1
      cases q
      obtain ⟨pa, vs, rfl, h, r⟩ := see_lst rel3 s1 e1
      refine .inr (.inr ⟨pa, vs, rfl, .of h, fun z hz l'' => ?_⟩)
      have x := Ext.newZ (o := .lst (cutV vs o1 o2)) rel3.toCRel hz
      exact p _ _ _ x (rel3.after x (rel3.toCRel.newZ hz)) (.lst (.inr rfl) upd_same ((cut_eq r o1 o2).mono x.toExt0)) l''
    · rename_i ds e1
      cases q
      obtain ⟨pa, vs, rfl, h, r⟩ := see_scr rel3 s1 e1
      refine .inr (.inr ⟨pa, vs, rfl, h, fun z hz l'' => ?_⟩)
      have x := Ext.newZ (o := .lst (cutV vs o1 o2)) rel3.toCRel hz
      exact p _ _ _ x (rel3.after x (rel3.toCRel.newZ hz)) (.lst (.inr rfl) upd_same ((cut_eq r o1 o2).mono x.toExt0)) l''
    · cases q

/-! ### subscripts -/
theorem ixN_eq (n : Nat) (i : Int) : J.ixN n i = L2.ixN n i := rfl
theorem ix_dict (hu : X.A.units + 1 < cLine) : IxR X (fun x y H Q => ∃ a v, x = .ref a ∧ DGet H a y (some v) ∧ Q v H) := by
  intro value slice pins s σ H x y v u Q I rx ry h hs
  obtain ⟨a, z, rfl, g, q⟩ := h
  cases rx
  exact PyProof.Rows.tail_any (dict_typeIs I g) PySem.F.slot_dict_getitem.lookup (d_getItem hu I g ry fun w' s3 I3 rw' => ⟨z, H, I3, rw', q⟩) hs
theorem pf_ix (hu : X.A.units + 1 < cLine) (ha : POf X ct Wx a f1) (hb : POf X ct Wx b f2) (hs : PlainIx b := by intro _ _; rfl) : PF X ct Wx (.Subscript a b pos) (c2 gIx f1 f2) := by
  refine pf_op2 (pe_ix (ix_list.or (ix_tup.or (ix_dict hu))) ha hb hs) fun W0 H0 W σ H E M d1 d2 v1 v2 d Q rel l s1 s2 q k => ?_
  unfold gIx at q
  split at q
  · rename_i ds i e1 e2
    obtain ⟨p1, vs, rfl, h, r, _⟩ := see_tup rel s1 e1
    rw [Option.bind_eq_some_iff] at q
    obtain ⟨j, q1, q2⟩ := q
    obtain ⟨v, h1, h2⟩ := r.get q2
    rw [r.length] at q1
    refine .inr (.inl ⟨p1, vs, i, v, rfl, see_int rel s2 e2, .of h, ?_, k W H v Ext.refl rel.toCRel h2 l⟩)
    unfold L2.atI
    rw [← ixN_eq, q1]
    exact h1
  · rename_i ds i e1 e2
    obtain ⟨p1, vs, rfl, h, r⟩ := see_lst rel s1 e1
    rw [Option.bind_eq_some_iff] at q
    obtain ⟨j, q1, q2⟩ := q
    obtain ⟨v, h1, h2⟩ := r.get q2
    rw [r.length] at q1
    refine .inl ⟨p1, vs, i, v, rfl, see_int rel s2 e2, .of h, ?_, k W H v Ext.refl rel.toCRel h2 l⟩
    unfold L2.atI
    rw [← ixN_eq, q1]
    exact h1
  · rename_i kvs dk e1
    rw [Option.bind_eq_some_iff] at q
    obtain ⟨j, q1, q2⟩ := q
    obtain ⟨p1, vs, rfl, h, hk, r⟩ := see_dK rel s1 e1
    obtain ⟨v, h1, h2⟩ := (reps_look hk r).1 q2
    refine .inr (.inr ⟨p1, v, rfl, .inl ⟨vs, j, h, ?_, h1.symm⟩, k W H v Ext.refl rel.toCRel h2 l⟩)
    generalize e2 : view M d2 = dk2 at q1
    cases dk2 with
    | int i => cases q1; exact see_int rel s2 e2
    | str i => cases q1; exact see_str rel s2 e2
    | _ => cases q1
  · rename_i kvs ds e1 e2
    rw [Option.bind_eq_some_iff] at q
    obtain ⟨ks, q1, q2⟩ := q
    obtain ⟨p1, vs, rfl, h, hk, r⟩ := see_dT rel s1 e1
    obtain ⟨p2, us, rfl, h3, r3, _⟩ := see_tup rel s2 e2
    obtain rfl := reps_keys r3 q1
    obtain ⟨v, h1, h2⟩ := (reps_look hk r).1 q2
    exact .inr (.inr ⟨p1, v, rfl, .inr ⟨vs, ks, p2, h, rfl, h3, h1.symm⟩, k W H v Ext.refl rel.toCRel h2 l⟩)
  · cases q
end
end J
namespace J
open PySem PySem.Spec L2

section
variable {X : Cx} {ct : List (Str × List Str)} {Wx : WX} {e a b c : Expr} {es : List Expr} {f f1 f2 f3 : CE} {g : CA} {t t1 t2 : CT} {pos p2 : Pos} {rest : List Expr}

theorem Post.pass {G : Gm} {W0 W : Wd} {H0 H : Hp} {σ : L2.St} {E : Env} {α β : Type} {Rp : Wd → Hp → α → β → Prop} {r : R α} {Q : β → Hp → Prop} (h : Post G Wx Rp W0 H0 W H σ E r Q) : Post G Wx Rp W0 H0 W H σ E r (fun v H' => LenOk H' → Q v H') := by
  cases r with
  | ok d M' => exact fun W' H' v x r p l _ => h W' H' v x r p l
  | exc c ds M' => exact h
  | bad => exact h

theorem pf_one {op} (ha : PF X ct Wx a f) : PF X ct Wx (.BoolOp op [a] pos) f := pe_one ha
theorem pf_and (ha : PF X ct Wx a f1) (hb : PF X ct Wx (.BoolOp .And (b :: rest) pos) f2) : PF X ct Wx (.BoolOp .And (a :: b :: rest) pos) (cAnd f1 f2) := by
  refine PE.fin (pe_and ha hb) ?_
  rintro σ H Q l ⟨W0, H0, W, E, M, rel, p⟩
  refine ⟨W0, H0, W, E, M, rel, Post.bind p fun d1 M1 W1 H1 v1 _ x1 rel1 p1 l1 p => ?_⟩
  cases p1 with
  | bl k =>
    refine ⟨k, rfl, ?_⟩
    cases k with
    | true => exact iteT ⟨W0, H0, W1, E, M1, rel1, Post.pass p⟩
    | false => exact iteF fun l'' => p W1 H1 _ Ext.refl rel1 (.bl _) l1
  | _ => exact p.elim
theorem pf_or (ha : PF X ct Wx a f1) (hb : PF X ct Wx (.BoolOp .Or (b :: rest) pos) f2) : PF X ct Wx (.BoolOp .Or (a :: b :: rest) pos) (cOr f1 f2) := by
  refine PE.fin (pe_or ha hb) ?_
  rintro σ H Q l ⟨W0, H0, W, E, M, rel, p⟩
  refine ⟨W0, H0, W, E, M, rel, Post.bind p fun d1 M1 W1 H1 v1 _ x1 rel1 p1 l1 p => ?_⟩
  cases p1 with
  | bl k =>
    refine ⟨k, rfl, ?_⟩
    cases k with
    | false => exact iteF ⟨W0, H0, W1, E, M1, rel1, Post.pass p⟩
    | true => exact iteT fun l'' => p W1 H1 _ Ext.refl rel1 (.bl _) l1
  | _ => exact p.elim
theorem pf_not (ha : PF X ct Wx a f) : PF X ct Wx (.UnaryOp .Not a pos) (cNot f) := by
  refine PE.fin (pe_not ha) ?_
  rintro σ H Q l ⟨W0, H0, W, E, M, rel, p⟩
  refine ⟨W0, H0, W, E, M, rel, Post.bind p fun d1 M1 W1 H1 v1 _ x1 rel1 p1 l1 p => ?_⟩
  cases p1 with
  | bl k => exact ⟨k, rfl, fun l'' => p W1 H1 _ Ext.refl rel1 (.bl _) l1⟩
  | _ => exact p.elim
theorem pf_if (hc : PTf X ct Wx c t) (ha : PF X ct Wx a f1) (hb : PF X ct Wx b f2) : PF X ct Wx (.IfExp c a b pos) (cIf t f1 f2) := by
  refine PE.fin (pe_ifExp hc ha hb) ?_
  rintro σ H Q l ⟨W0, H0, W, E, M, rel, p⟩
  refine ⟨W0, H0, W, E, M, rel, Post.bind p fun d1 M1 W1 H1 v1 _ x1 rel1 p1 l1 p => ?_⟩
  cases p1
  cases d1 with
  | true => exact iteT ⟨W0, H0, W1, E, M1, rel1, Post.pass p⟩
  | false => exact iteF ⟨W0, H0, W1, E, M1, rel1, Post.pass p⟩

/-! ### argument lists, displays -/
theorem paf_nil : PAf X ct Wx [] aNil := by
  refine PA.fin pa_nil ?_
  rintro σ H Q l ⟨W0, H0, W, E, M, rel, p⟩
  exact fun l' => p W H [] Ext.refl rel .nil l
theorem paf_cons (ha : PF X ct Wx e f) (hr : PAf X ct Wx es g) (hs : starEach (e :: es) X.env = (false, eval e X.env) :: starEach es X.env := by rfl) : PAf X ct Wx (e :: es) (aCons f g) := by
  refine PA.fin (pa_cons ha hr hs) ?_
  rintro σ H Q l ⟨W0, H0, W, E, M, rel, p⟩
  refine ⟨W0, H0, W, E, M, rel, Post.bind p fun d1 M1 W1 H1 v1 _ x1 rel1 p1 l1 p => ?_⟩
  refine ⟨W0, H0, W1, E, M1, rel1, Post.bind p fun d2 M2 W2 H2 v2 _ x2 rel2 p2 l2 p => ?_⟩
  exact fun l'' => p W2 H2 _ Ext.refl rel2 (.cons (p1.mono x2.toExt0) p2) l2
theorem pf_tup {x1} (h : PAf X ct Wx es g) : PF X ct Wx (.Tuple es x1 pos) (cTup g) := by
  refine PE.fin (pe_tup h) ?_
  rintro σ H Q l ⟨W0, H0, W, E, M, rel, p⟩
  refine ⟨W0, H0, W, E, M, rel, Post.bind p fun d1 M1 W1 H1 v1 _ x1 rel1 p1 l1 p => ?_⟩
  by_cases c : d1.length ≤ sizeMax
  · rw [if_pos c] at p
    have c' : v1.length ≤ sizeLine := by rw [← p1.length]; exact c
    refine ⟨c', fun z hz l'' => ?_⟩
    have x := Ext.new (o := .tup v1) rel1.toCRel hz
    exact p W1 _ _ x (rel1.after x (rel1.toCRel.new hz)) (.tup upd_same (p1.mono x.toExt0)) l''
  · rw [if_neg c] at p; exact p.elim
theorem pf_lst (h : PAf X ct Wx es g) : PF X ct Wx (.List es pos) (cLst g) := by
  refine PE.fin (pe_lst h) ?_
  rintro σ H Q l ⟨W0, H0, W, E, M, rel, p⟩
  refine ⟨W0, H0, W, E, M, rel, Post.bind p fun d1 M1 W1 H1 v1 _ x1 rel1 p1 l1 p => ?_⟩
  by_cases c : d1.length ≤ sizeMax
  · rw [if_pos c] at p
    have c' : v1.length ≤ sizeLine := by rw [← p1.length]; exact c
    refine ⟨c', fun z hz l'' => ?_⟩
    have x := Ext.newZ (o := .lst v1) rel1.toCRel hz
    exact p _ _ _ x (rel1.after x (rel1.toCRel.newZ hz)) (.lst (.inr rfl) upd_same (p1.mono x.toExt0)) l''
  · rw [if_neg c] at p; exact p.elim

/-! ### a < b < c -/
theorem pf_ch {op1 op2 : CmpOp} {g1 g2 : D → D → Option D} (h1 : OpF X ct (compareOp op1) g1) (h2 : OpF X ct (compareOp op2) g2) (ha : POf X ct Wx a f1) (hb : POf X ct Wx b f2) (hc : POf X ct Wx c f3)
    (hm : lastMarks [op1, op2] [b, c] = false := by with_unfolding_all rfl) : PF X ct Wx (.Compare a [op1, op2] [b, c] pos) (cCh g1 g2 f1 f2 f3) := by
  obtain ⟨r1, o1, k1⟩ := h1
  obtain ⟨r2, o2, k2⟩ := h2
  refine PE.fin (pe_chain o1 o2 ha hb hc hm) ?_
  rintro σ H Q l ⟨W0, H0, W, E, M, rel, p⟩
  refine ⟨W0, H0, W, E, M, rel, Post.bind p fun d1 M1 W1 H1 v1 _ x1 rel1 p1 l1 p => ?_⟩
  refine ⟨W0, H0, W1, E, M1, rel1, Post.bind p fun d2 M2 W2 H2 v2 _ x2 rel2 p2 l2 p => ?_⟩
  cases q : g1 (view M2 d1) (view M2 d2) with
  | none => rw [q] at p; exact p.elim
  | some d =>
    rw [q] at p
    refine k1 W0 H0 W2 σ H2 E M2 d1 d2 v1 v2 d _ rel2 l2 (p1.mono x2.toExt0) p2 q fun W3 H3 v3 x3 c3 r3 l3 => ?_
    have rel3 := rel2.after x3 c3
    cases r3 with
    | bl k =>
      refine ⟨k, rfl, ?_⟩
      cases k with
      | true =>
        refine iteT ⟨W0, H0, W3, E, M2, rel3, Post.bind (Post.step rel3 x3 p) fun d3 M4 W4 H4 v4 _ x4 rel4 p4 l4 p => ?_⟩
        cases q2 : g2 (view M4 d2) (view M4 d3) with
        | none => rw [q2] at p; exact p.elim
        | some d' =>
          rw [q2] at p
          exact k2 W0 H0 W4 σ H4 E M4 d2 d3 v2 v4 d' _ rel4 l4 ((p2.mono x3.toExt0).mono x4.toExt0) p4 q2 fun W' H' v x' c' r' l' l'' => p W' H' v x' (rel4.after x' c') r' l''
      | false => exact iteF fun l'' => (Post.step rel3 x3 p) W3 H3 _ Ext.refl rel3 (.bl _) l3
    | _ => exact p.elim
theorem pt_ch {op1 op2 : CmpOp} {g1 g2 : D → D → Option D} (h1 : OpF X ct (compareOp op1) g1) (h2 : OpF X ct (compareOp op2) g2) (ha : POf X ct Wx a f1) (hb : POf X ct Wx b f2) (hc : POf X ct Wx c f3)
    (hm : lastMarks [op1, op2] [b, c] = false := by with_unfolding_all rfl) : PTf X ct Wx (.Compare a [op1, op2] [b, c] pos) (tV (cCh g1 g2 f1 f2 f3)) := by
  obtain ⟨r1, o1, k1⟩ := h1
  obtain ⟨r2, o2, k2⟩ := h2
  refine PT.fin (pt_chain o1 o2 ha hb hc hm) ?_
  rintro σ H Q l ⟨W0, H0, W, E, M, rel, p⟩
  have e1 : ∀ {α : Type} {β γ : Type} (r : R α) (k : α → Mem → R β) (k2 : β → Mem → R γ), (r.bind k).bind k2 = r.bind fun d M => (k d M).bind k2 := fun r k k2 => by cases r <;> rfl
  dsimp only [tV, cCh] at p
  rw [e1] at p
  refine ⟨W0, H0, W, E, M, rel, Post.bind p fun d1 M1 W1 H1 v1 _ x1 rel1 p1 l1 p => ?_⟩
  rw [e1] at p
  refine ⟨W0, H0, W1, E, M1, rel1, Post.bind p fun d2 M2 W2 H2 v2 _ x2 rel2 p2 l2 p => ?_⟩
  cases q : g1 (view M2 d1) (view M2 d2) with
  | none => rw [q] at p; exact p.elim
  | some d =>
    rw [q] at p
    refine k1 W0 H0 W2 σ H2 E M2 d1 d2 v1 v2 d _ rel2 l2 (p1.mono x2.toExt0) p2 q fun W3 H3 v3 x3 c3 r3 l3 => ?_
    have rel3 := rel2.after x3 c3
    cases r3 with
    | bl k =>
      refine ⟨k, rfl, ?_⟩
      cases k with
      | true =>
        dsimp only at p
        rw [if_pos rfl, e1] at p
        refine iteT ⟨W0, H0, W3, E, M2, rel3, Post.bind (Post.step rel3 x3 p) fun d3 M4 W4 H4 v4 _ x4 rel4 p4 l4 p => ?_⟩
        cases q2 : g2 (view M4 d2) (view M4 d3) with
        | none => rw [q2] at p; exact p.elim
        | some d' =>
          rw [q2] at p
          refine k2 W0 H0 W4 σ H4 E M4 d2 d3 v2 v4 d' _ rel4 l4 ((p2.mono x3.toExt0).mono x4.toExt0) p4 q2 fun W' H' v x' c' r' l' => ?_
          cases r' with
          | bl k => exact ⟨k, rfl, fun l'' => p W' H' k x' (rel4.after x' c') rfl l'⟩
          | _ => exact p.elim
      | false => exact iteF ⟨false, rfl, fun l'' => (Post.step rel3 x3 p) W3 H3 _ Ext.refl rel3 rfl l3⟩
    | _ => exact p.elim

/-! ### attributes -/
/-- what is known of a class of the module: its number, name, address -/
structure ClsX (K : PySem.W.Frag) (mg : Str → Option Value) (ct : List (Str × List Str)) (n : Nat) : Prop where
  ex : ∃ nm ns C, ct[n]? = some (nm, ns) ∧ mg nm = some (.ref C) ∧ Cls K C ∧ ns.Nodup ∧ ns.length < 1000 ∧ ∀ f ∈ ns, NoAttr K C f
theorem lookup_at : ∀ {vs : List (Str × V)} {ns : List Str} {j : Nat} {f : Str} {v : V}, vs.map (·.1) = ns → ns.Nodup → ns[j]? = some f → (vs.map (·.2))[j]? = some v → vs.lookup f = some v
  | [], _, _, _, _, e, _, h, _ => by subst e; simp at h
  | p :: vs, [], _, _, _, e, _, h, _ => by cases e
  | (q, w) :: vs, n :: ns, 0, f, v, e, _, h, h2 => by
    injection e with e1 e2
    simp at h h2
    subst h h2
    have : q = n := e1
    subst this
    simp [List.lookup]
  | (q, w) :: vs, n :: ns, j + 1, f, v, e, nd, h, h2 => by
    injection e with e1 e2
    have e1 : q = n := e1
    subst e1
    have h : ns[j]? = some f := by simpa using h
    have h2 : (vs.map (·.2))[j]? = some v := by simpa using h2
    have ne : f ≠ q := fun z => (List.nodup_cons.mp nd).1 (by rw [← z]; exact List.mem_of_getElem? h)
    rw [List.lookup_cons]
    have : (f == q) = false := by simpa using ne
    rw [this]
    exact lookup_at e2 (List.nodup_cons.mp nd).2 h h2
theorem pf_fld (n j : Nat) {x : Str} (hC : ClsX X.K X.mg ct n) (ha : POf X ct Wx a f) (hj : (ct[n]?.bind fun p => p.2[j]?) = some x := by rfl) (hb : attributeBase a x X.env (eval a X.env) = eval a X.env := by rfl) : PF X ct Wx (.Attribute a x pos) (c1 (gFld n j) f) := by
  obtain ⟨nm, ns, C, h1, h2, cl, nd, _, no⟩ := hC.ex
  rw [h1] at hj
  have hj : ns[j]? = some x := hj
  refine pf_un (r := fun v1 H1 Q => ∃ a C dx fs v, v1 = .ref a ∧ H1 a = some (.ins C dx fs) ∧ Cls X.K C ∧ NoAttr X.K C x ∧ fs.lookup x = some v ∧ Q v H1) (pe_fld ha hb) fun W0 H0 W σ H E M d1 v1 d Q rel l s1 q k => ?_
  unfold gFld at q
  split at q
  · rename_i c' ds e1
    split at q
    · rename_i ec
      subst ec
      obtain ⟨nm', ns', p1, C', dx, vs, rfl, t1, t2, h, hk, r⟩ := see_obj rel s1 e1
      have t1 : ct[c']? = some (nm', ns') := t1
      rw [h1] at t1
      cases t1
      rw [show (Gx X ct).mg = X.mg from rfl, h2] at t2
      cases t2
      obtain ⟨v, g1, g2⟩ := r.get q
      have hlt : j < ds.length := (List.getElem?_eq_some_iff.mp q).1
      exact ⟨p1, C, dx, vs, v, rfl, h, cl, no x (List.mem_of_getElem? hj), lookup_at hk (nd.sublist (List.take_sublist _ _)) (by rw [List.getElem?_take_of_lt hlt]; exact hj) g1, k W H v Ext.refl rel.toCRel g2 l⟩
    · cases q
  · cases q

/-! ### calls of built-ins -/
theorem tO_arg {G : Gm} {Q : List V → Hp → Prop} {σ : L2.St} {H : Hp} (h : tO G Wx f σ H fun v H1 => Q [v] H1) : tCons (tO G Wx f) tNil σ H Q := h
/-- one argument, by its value -/
theorem pf_call1 {r : List V → Hp → VK → Prop} {gg : D → Option D} {e' : Expr} (hb : PE X e' (tCB r (tCons (tO (Gx X ct) Wx f) tNil)))
    (hr : ∀ W0 H0 W σ H E M d1 v1 d Q, Rel (Gx X ct) W0 H0 W σ H E M → LenOk H → Seen (Gx X ct) W H σ E d1 v1 → gg (view M d1) = some d →
      (∀ W' H' v, Ext W H W' H' → CRel (Gx X ct) W' H' M → Rep (Gx X ct) W' H' d v → LenOk H' → Q v H') → r [v1] H Q) : PF X ct Wx e' (c1 gg f) :=
  pf_un (r := fun v H Q => r [v] H Q) hb hr
theorem pf_call2 {r : List V → Hp → VK → Prop} {gg : D → D → Option D} {e' : Expr} (hb : PE X e' (tCB r (tCons (tO (Gx X ct) Wx f1) (tCons (tO (Gx X ct) Wx f2) tNil))))
    (hr : ∀ W0 H0 W σ H E M d1 d2 v1 v2 d Q, Rel (Gx X ct) W0 H0 W σ H E M → LenOk H → Seen (Gx X ct) W H σ E d1 v1 → Seen (Gx X ct) W H σ E d2 v2 → gg (view M d1) (view M d2) = some d →
      (∀ W' H' v, Ext W H W' H' → CRel (Gx X ct) W' H' M → Rep (Gx X ct) W' H' d v → LenOk H' → Q v H') → r [v1, v2] H Q) : PF X ct Wx e' (c2 gg f1 f2) :=
  pf_op2 (r := fun v1 v2 H Q => r [v1, v2] H Q) hb hr
/-- a built-in function by its values -/
def CallF1 (X : Cx) (ct : List (Str × List Str)) (fv : Value) (gg : D → Option D) : Prop :=
  ∃ r : List V → Hp → VK → Prop, CallR X fv r ∧ ∀ W0 H0 W σ H E M d1 v1 d Q, Rel (Gx X ct) W0 H0 W σ H E M → LenOk H → Seen (Gx X ct) W H σ E d1 v1 → gg (view M d1) = some d →
      (∀ W' H' v, Ext W H W' H' → CRel (Gx X ct) W' H' M → Rep (Gx X ct) W' H' d v → LenOk H' → Q v H') → r [v1] H Q
def CallF2 (X : Cx) (ct : List (Str × List Str)) (fv : Value) (gg : D → D → Option D) : Prop :=
  ∃ r : List V → Hp → VK → Prop, CallR X fv r ∧ ∀ W0 H0 W σ H E M d1 d2 v1 v2 d Q, Rel (Gx X ct) W0 H0 W σ H E M → LenOk H → Seen (Gx X ct) W H σ E d1 v1 → Seen (Gx X ct) W H σ E d2 v2 → gg (view M d1) (view M d2) = some d →
      (∀ W' H' v, Ext W H W' H' → CRel (Gx X ct) W' H' M → Rep (Gx X ct) W' H' d v → LenOk H' → Q v H') → r [v1, v2] H Q
variable {x : Str} {p : Pos}
theorem pf_b1 {id : String} {gg : D → Option D} (h : CallF1 X ct (.builtin id) gg) (hm : X.mg x = none) (hv : bootBuiltins x = some (.builtin id)) (ha : POf X ct Wx a f) (hg : Gl X x := by rfl) (hn : x ≠ "__name__" := by decide) (hdb : (x == ("__debug__" : Str)) = false := by decide)
    (he : starEach [a] X.env = (false, eval a X.env) :: starEach [] X.env := by rfl) : PF X ct Wx (.Call (.Name x p) [a] [] pos) (c1 gg f) := by
  obtain ⟨r, h1, h2⟩ := h
  exact pf_call1 (pe_callB h1 hg hm hv (pa_cons ha pa_nil he) hn hdb he rfl) h2
theorem pf_ty1 {id : String} {gg : D → Option D} (h : CallF1 X ct (.type id) gg) (hm : X.mg x = none) (hv : bootBuiltins x = some (.type id)) (ha : POf X ct Wx a f) (hg : Gl X x := by rfl) (hn : x ≠ "__name__" := by decide) (hdb : (x == ("__debug__" : Str)) = false := by decide)
    (he : starEach [a] X.env = (false, eval a X.env) :: starEach [] X.env := by rfl) : PF X ct Wx (.Call (.Name x p) [a] [] pos) (c1 gg f) := by
  obtain ⟨r, h1, h2⟩ := h
  exact pf_call1 (pe_callTy h1 hg hm hv (pa_cons ha pa_nil he) hn hdb he rfl) h2
theorem pf_b2 {id : String} {gg : D → D → Option D} (h : CallF2 X ct (.builtin id) gg) (hm : X.mg x = none) (hv : bootBuiltins x = some (.builtin id)) (ha : POf X ct Wx a f1) (hb : POf X ct Wx b f2) (hg : Gl X x := by rfl) (hn : x ≠ "__name__" := by decide) (hdb : (x == ("__debug__" : Str)) = false := by decide)
    (he : starEach [a, b] X.env = (false, eval a X.env) :: starEach [b] X.env := by rfl) (he2 : starEach [b] X.env = (false, eval b X.env) :: starEach [] X.env := by rfl) (hpl : (backTo pos (starEach [b] X.env)).any (·.1) = false := by rfl) : PF X ct Wx (.Call (.Name x p) [a, b] [] pos) (c2 gg f1 f2) := by
  obtain ⟨r, h1, h2⟩ := h
  exact pf_call2 (pe_callB h1 hg hm hv (pa_cons ha (pa_cons hb pa_nil he2) he) hn hdb he hpl) h2
end
end J
namespace JR
open PySem PySem.Spec PyProof.Rows L2

/-! ### sum, min, max over tuples of ints -/
section
variable {prog : Program} {w : World} {A : Around} {E : Value → Shared → Prop} {s : Shared} {l : Addr} {xs : Array (Int × Tok)} {its : List Value} {ns : List Int} {Q : Value → Shared → Prop}
theorem iter_intTup {Q : Value → Shared → Prop} (hl : s.heap.IsTuple l (intItems xs))
    (h : ∀ s₂, s₂ = { s with heap := s.heap.push { cls := .type "tuple_iterator", data := .fields #[.ref l, .int 0 0] } } → s₂.heap.IsTupleIter s.heap.objs.size l 0 ∧ s₂.heap.IsTuple l (intItems xs) → (∀ b ∈ [s.heap.objs.size, l], b < s₂.heap.objs.size) → l ≠ s.heap.objs.size → Q (.ref s.heap.objs.size) s₂) :
    wpAny (model prog w) A (pyIter (.ref l)) Q E s := by
  refine wpAny_pyIter_tuple hl ?_
  have lt : l < s.heap.objs.size := by obtain ⟨o, e, _⟩ := hl; exact Heap.lt_size e
  have hsz : (s.heap.push { cls := .type "tuple_iterator", data := .fields #[.ref l, .int 0 0] }).objs.size = s.heap.objs.size + 1 := Heap.size_push ..
  refine h _ rfl ⟨⟨_, Heap.get?_push_size _ rfl, rfl, rfl⟩, hl.at fun o e => Heap.get?_push_of_some _ e⟩ (fun b hb => ?_) (Nat.ne_of_lt lt)
  rw [hsz]
  rcases List.mem_cons.mp hb with e | hb
  · subst e; exact Nat.lt_succ_self _
  · rcases List.mem_cons.mp hb with e | hb
    · subst e; exact Nat.lt_succ_of_lt lt
    · cases hb
theorem sum_tup (hh : A.handled = none) (hl : IsTup s.heap l its.toArray) (hi : IntsAre its ns)
    (h : ∀ h' tk t', (∀ b o, s.heap.get? b = some o → h'.get? b = some o) → Q (.int ns.sum t') { s with heap := h', toks := tk }) : wpAny (model prog w) A (call (.builtin "sum") [.ref l]) Q E s := by
  obtain ⟨xs, e⟩ := hi.allInts.items
  have hn : numsOf (intItems xs).toList = ns := by rw [← e]; exact hi.numsOf
  rw [nums_intItems] at hn
  rw [e] at hl
  refine call_sum_walkG (iter_intTup hl fun s₂ e st hfp hlI => ?_)
  subst e
  refine ⟨_, _, _, _, _, _, numAt xs, rfl, Walks.tuple (A := A.in1) hh _ l hlI (intItems xs), st, hfp, (fun _ _ => intItems_at), fun h' tk t' hk => ?_⟩
  have := h h' tk t' (fun b o e => hk b o (fun z => by
    have : b = s.heap.objs.size := by simpa using z
    subst this
    exact absurd (Heap.lt_size e) (Nat.lt_irrefl _)) (Heap.get?_push_of_some _ e))
  have e2 : (intItems xs).size = xs.size := by simp [intItems]
  rw [e2, preSum_eq, List.take_of_length_le (by simp), hn]
  exact this
theorem max_tup (hh : A.handled = none) (hl : IsTup s.heap l its.toArray) (hi : IntsAre its ns) (hne : 0 < ns.length)
    (h : ∀ h' tk M t', (∀ b o, s.heap.get? b = some o → h'.get? b = some o) → M ∈ ns → (∀ a, a ∈ ns → a ≤ M) → Q (.int M t') { s with heap := h', toks := tk }) : wpAny (model prog w) A (call (.builtin "max") [.ref l]) Q E s := by
  obtain ⟨xs, e⟩ := hi.allInts.items
  have hn : numsOf (intItems xs).toList = ns := by rw [← e]; exact hi.numsOf
  rw [nums_intItems] at hn
  subst hn
  rw [e] at hl
  have hsz : 0 < xs.size := by simpa using hne
  refine call_max_walk (iter_intTup hl fun s₂ e st hfp hlI => ?_)
  subst e
  refine ⟨_, _, _, _, _, _, _, rfl, Walks.tuple (A := A.in1) hh _ l hlI (intItems xs), st, hfp, by simpa [intItems] using hsz, CmpOf.ints_gt (numAt xs) (fun _ _ => intItems_at), fun v h' tk hP hk => ?_⟩
  have hv : (intItems xs)[argBest (fun i j => decide (numAt xs i > numAt xs j)) (xs.size - 1)]? = some v := by simpa [intItems] using hP
  obtain ⟨t, rfl⟩ := intItems_at hv
  obtain ⟨h1, h2⟩ := argBest_gt (numAt xs) (xs.size - 1)
  refine h h' tk _ t (fun b o e => hk b o (fun z => by
    have : b = s.heap.objs.size := by simpa using z
    subst this
    exact absurd (Heap.lt_size e) (Nat.lt_irrefl _)) (Heap.get?_push_of_some _ e)) ?_ fun a ha => ?_
  · rw [numAt_eq]; exact PySem.getD_mem (by rw [List.length_map, Array.length_toList]; omega)
  · obtain ⟨j, hj, rfl⟩ := mem_getD ha
    rw [List.length_map, Array.length_toList] at hj
    rw [← numAt_eq]; exact h2 j (by omega)
theorem min_tup (hh : A.handled = none) (hl : IsTup s.heap l its.toArray) (hi : IntsAre its ns) (hne : 0 < ns.length)
    (h : ∀ h' tk M t', (∀ b o, s.heap.get? b = some o → h'.get? b = some o) → M ∈ ns → (∀ a, a ∈ ns → M ≤ a) → Q (.int M t') { s with heap := h', toks := tk }) : wpAny (model prog w) A (call (.builtin "min") [.ref l]) Q E s := by
  obtain ⟨xs, e⟩ := hi.allInts.items
  have hn : numsOf (intItems xs).toList = ns := by rw [← e]; exact hi.numsOf
  rw [nums_intItems] at hn
  subst hn
  rw [e] at hl
  have hsz : 0 < xs.size := by simpa using hne
  refine call_min_walk (iter_intTup hl fun s₂ e st hfp hlI => ?_)
  subst e
  refine ⟨_, _, _, _, _, _, _, rfl, Walks.tuple (A := A.in1) hh _ l hlI (intItems xs), st, hfp, by simpa [intItems] using hsz, CmpOf.ints_lt (numAt xs) (fun _ _ => intItems_at), fun v h' tk hP hk => ?_⟩
  have hv : (intItems xs)[argBest (fun i j => decide (numAt xs i < numAt xs j)) (xs.size - 1)]? = some v := by simpa [intItems] using hP
  obtain ⟨t, rfl⟩ := intItems_at hv
  obtain ⟨h1, h2⟩ := argBest_lt (numAt xs) (xs.size - 1)
  refine h h' tk _ t (fun b o e => hk b o (fun z => by
    have : b = s.heap.objs.size := by simpa using z
    subst this
    exact absurd (Heap.lt_size e) (Nat.lt_irrefl _)) (Heap.get?_push_of_some _ e)) ?_ fun a ha => ?_
  · rw [numAt_eq]; exact PySem.getD_mem (by rw [List.length_map, Array.length_toList]; omega)
  · obtain ⟨j, hj, rfl⟩ := mem_getD ha
    rw [List.length_map, Array.length_toList] at hj
    rw [← numAt_eq]; exact h2 j (by omega)
end

section
variable {X : Cx}
theorem cr_sumT (hc : X.calm = true) : CallR X (.builtin "sum") (fun vs H Q => ∃ (a : Addr) (ns : List Int), vs = [V.ref a] ∧ H a = some (.tup (ns.map V.int)) ∧ Q (.int ns.sum) H) := by
  intro pins s σ H vs us Q I r h
  obtain ⟨a, ns, rfl, hs, q⟩ := h
  obtain ⟨_, its, rv, hl⟩ := (show ObjOk X.prog X.w H s.heap a (.tup (ns.map V.int)) from I.hok a _ hs)
  rw [Vals.ref1 r]
  exact sum_tup (I.ok.hd hc) hl rv.ints fun h' tk t' hk => ⟨.int _, H, I.kept hk, ⟨_, rfl⟩, q⟩
theorem cr_maxT (hc : X.calm = true) : CallR X (.builtin "max") (fun vs H Q => ∃ (a : Addr) (ns : List Int), vs = [V.ref a] ∧ H a = some (.tup (ns.map V.int)) ∧ 0 < ns.length ∧ ∀ m, m ∈ ns → (∀ y, y ∈ ns → y ≤ m) → Q (.int m) H) := by
  intro pins s σ H vs us Q I r h
  obtain ⟨a, ns, rfl, hs, hne, q⟩ := h
  obtain ⟨_, its, rv, hl⟩ := (show ObjOk X.prog X.w H s.heap a (.tup (ns.map V.int)) from I.hok a _ hs)
  rw [Vals.ref1 r]
  exact max_tup (I.ok.hd hc) hl rv.ints hne fun h' tk m t' hk h1 h2 => ⟨.int _, H, I.kept hk, ⟨_, rfl⟩, q m h1 h2⟩
theorem cr_minT (hc : X.calm = true) : CallR X (.builtin "min") (fun vs H Q => ∃ (a : Addr) (ns : List Int), vs = [V.ref a] ∧ H a = some (.tup (ns.map V.int)) ∧ 0 < ns.length ∧ ∀ m, m ∈ ns → (∀ y, y ∈ ns → m ≤ y) → Q (.int m) H) := by
  intro pins s σ H vs us Q I r h
  obtain ⟨a, ns, rfl, hs, hne, q⟩ := h
  obtain ⟨_, its, rv, hl⟩ := (show ObjOk X.prog X.w H s.heap a (.tup (ns.map V.int)) from I.hok a _ hs)
  rw [Vals.ref1 r]
  exact min_tup (I.ok.hd hc) hl rv.ints hne fun h' tk m t' hk h1 h2 => ⟨.int _, H, I.kept hk, ⟨_, rfl⟩, q m h1 h2⟩
end
end JR

namespace J
open PySem PySem.Spec L2
section
variable {X : Cx} {ct : List (Str × List Str)}

theorem case_seq {d : D} {ds : List D} (h : seq d = some ds) : d = .lst ds ∨ d = .tup ds := by
  cases d with
  | lst _ => cases h; exact .inl rfl
  | tup _ => cases h; exact .inr rfl
  | _ => cases h
theorem call_lenR : CallR X (.builtin "len") (fun xs H Q => ∃ a kvs, xs = [V.ref a] ∧ Rd H a (.dK kvs) ∧ Q (.int kvs.length) H) := by
  intro pins s σ H xs us Q I r h
  obtain ⟨a, kvs, rfl, ha, q⟩ := h
  obtain ⟨u, rfl, ru⟩ := vals1 r
  cases ru
  exact d_len I ha fun t s' I' => ⟨.int kvs.length, H, I', ⟨_, rfl⟩, q⟩
theorem cf_len : CallF1 X ct (.builtin "len") gLen := by
  refine ⟨_, call_len_seq.or call_lenR, fun W0 H0 W σ H E M d1 v1 d Q rel l s1 q k => ?_⟩
  unfold gLen at q
  split at q
  · rename_i ds e
    cases q
    obtain ⟨a, vs, rfl, h, r⟩ := see_lst rel s1 e
    exact .inl ⟨a, vs, rfl, .inl (.of h), by rw [← r.length]; exact k W H _ Ext.refl rel.toCRel (.int _) l⟩
  · rename_i ds e
    cases q
    obtain ⟨a, vs, rfl, h, r, _⟩ := see_tup rel s1 e
    exact .inl ⟨a, vs, rfl, .inr (.of h), by rw [← r.length]; exact k W H _ Ext.refl rel.toCRel (.int _) l⟩
  · rename_i ds e
    cases q
    obtain ⟨a, vs, rfl, h, hk, r⟩ := see_dK rel s1 e
    have : vs.length = ds.length := by have := congrArg List.length hk; simpa using this
    exact .inr ⟨a, vs, rfl, h, by rw [this]; exact k W H _ Ext.refl rel.toCRel (.int _) l⟩
  · cases q
theorem cf_sum (hc : X.calm = true) : CallF1 X ct (.builtin "sum") gSum := by
  refine ⟨_, (cr_sum hc).or (JR.cr_sumT hc), fun W0 H0 W σ H E M d1 v1 d Q rel l s1 q k => ?_⟩
  unfold gSum at q
  rw [Option.bind_eq_some_iff] at q
  obtain ⟨ds, q1, q2⟩ := q
  rw [Option.map_eq_some_iff] at q2
  obtain ⟨ns, q2, rfl⟩ := q2
  rcases case_seq q1 with e | e
  · obtain ⟨a, vs, rfl, h, r⟩ := see_lst rel s1 e
    obtain rfl := reps_ints r q2
    exact .inl ⟨a, ns, rfl, .of h, k W H _ Ext.refl rel.toCRel (.int _) l⟩
  · obtain ⟨a, vs, rfl, h, r, _⟩ := see_tup rel s1 e
    obtain rfl := reps_ints r q2
    exact .inr ⟨a, ns, rfl, h, k W H _ Ext.refl rel.toCRel (.int _) l⟩
theorem foldl_min_le : ∀ (ns : List Int) (a : Int), ns.foldl min a ≤ a ∧ (∀ y ∈ ns, ns.foldl min a ≤ y) ∧ (ns.foldl min a = a ∨ ns.foldl min a ∈ ns)
  | [], a => ⟨Int.le_refl _, (fun _ h => nomatch h), .inl rfl⟩
  | n :: ns, a => by
    obtain ⟨h1, h2, h3⟩ := foldl_min_le ns (min a n)
    rw [List.foldl_cons]
    refine ⟨Int.le_trans h1 (Int.min_le_left _ _), fun y hy => ?_, ?_⟩
    · rcases List.mem_cons.mp hy with e | hy
      · subst e; exact Int.le_trans h1 (Int.min_le_right _ _)
      · exact h2 y hy
    · rcases h3 with h3 | h3
      · rcases Int.le_total a n with c | c
        · left; rw [h3, Int.min_eq_left c]
        · right; rw [h3, Int.min_eq_right c]; exact List.mem_cons_self
      · right; exact List.mem_cons_of_mem _ h3
theorem foldl_max_le : ∀ (ns : List Int) (a : Int), a ≤ ns.foldl max a ∧ (∀ y ∈ ns, y ≤ ns.foldl max a) ∧ (ns.foldl max a = a ∨ ns.foldl max a ∈ ns)
  | [], a => ⟨Int.le_refl _, (fun _ h => nomatch h), .inl rfl⟩
  | n :: ns, a => by
    obtain ⟨h1, h2, h3⟩ := foldl_max_le ns (max a n)
    rw [List.foldl_cons]
    refine ⟨Int.le_trans (Int.le_max_left _ _) h1, fun y hy => ?_, ?_⟩
    · rcases List.mem_cons.mp hy with e | hy
      · subst e; exact Int.le_trans (Int.le_max_right _ _) h1
      · exact h2 y hy
    · rcases h3 with h3 | h3
      · rcases Int.le_total a n with c | c
        · right; rw [h3, Int.max_eq_right c]; exact List.mem_cons_self
        · left; rw [h3, Int.max_eq_left c]
      · right; exact List.mem_cons_of_mem _ h3
theorem minL_eq {ns : List Int} {m m' : Int} (h : minL ns = some m) (h1 : m' ∈ ns) (h2 : ∀ y ∈ ns, m' ≤ y) : m' = m := by
  cases ns with
  | nil => cases h
  | cons n ns =>
    cases h
    obtain ⟨k1, k2, k3⟩ := foldl_min_le ns n
    refine Int.le_antisymm (h2 _ ?_) ?_
    · rcases k3 with k3 | k3
      · rw [k3]; exact List.mem_cons_self
      · exact List.mem_cons_of_mem _ k3
    · rcases List.mem_cons.mp h1 with e | h1
      · rw [e]; exact k1
      · exact k2 _ h1
theorem maxL_eq {ns : List Int} {m m' : Int} (h : maxL ns = some m) (h1 : m' ∈ ns) (h2 : ∀ y ∈ ns, y ≤ m') : m' = m := by
  cases ns with
  | nil => cases h
  | cons n ns =>
    cases h
    obtain ⟨k1, k2, k3⟩ := foldl_max_le ns n
    refine Int.le_antisymm ?_ (h2 _ ?_)
    · rcases List.mem_cons.mp h1 with e | h1
      · rw [e]; exact k1
      · exact k2 _ h1
    · rcases k3 with k3 | k3
      · rw [k3]; exact List.mem_cons_self
      · exact List.mem_cons_of_mem _ k3
theorem cf_min (hc : X.calm = true) : CallF1 X ct (.builtin "min") gMin := by
  refine ⟨_, (cr_min hc).or (JR.cr_minT hc), fun W0 H0 W σ H E M d1 v1 d Q rel l s1 q k => ?_⟩
  unfold gMin at q
  rw [Option.bind_eq_some_iff] at q
  obtain ⟨ds, q1, q2⟩ := q
  rw [Option.bind_eq_some_iff] at q2
  obtain ⟨ns, q2, q3⟩ := q2
  rw [Option.map_eq_some_iff] at q3
  obtain ⟨m, q3, rfl⟩ := q3
  have hne : 0 < ns.length := by cases ns with | nil => cases q3 | cons _ _ => exact Nat.succ_pos _
  have fin : ∀ m', m' ∈ ns → (∀ y, y ∈ ns → m' ≤ y) → Q (.int m') H := fun m' h1 h2 => by
    rw [minL_eq q3 h1 h2]
    exact k W H _ Ext.refl rel.toCRel (.int _) l
  rcases case_seq q1 with e | e
  · obtain ⟨a, vs, rfl, h, r⟩ := see_lst rel s1 e
    obtain rfl := reps_ints r q2
    exact .inl ⟨a, ns, rfl, .of h, hne, fin⟩
  · obtain ⟨a, vs, rfl, h, r, _⟩ := see_tup rel s1 e
    obtain rfl := reps_ints r q2
    exact .inr ⟨a, ns, rfl, h, hne, fin⟩
theorem cf_max (hc : X.calm = true) : CallF1 X ct (.builtin "max") gMax := by
  refine ⟨_, (cr_max hc).or (JR.cr_maxT hc), fun W0 H0 W σ H E M d1 v1 d Q rel l s1 q k => ?_⟩
  unfold gMax at q
  rw [Option.bind_eq_some_iff] at q
  obtain ⟨ds, q1, q2⟩ := q
  rw [Option.bind_eq_some_iff] at q2
  obtain ⟨ns, q2, q3⟩ := q2
  rw [Option.map_eq_some_iff] at q3
  obtain ⟨m, q3, rfl⟩ := q3
  have hne : 0 < ns.length := by cases ns with | nil => cases q3 | cons _ _ => exact Nat.succ_pos _
  have fin : ∀ m', m' ∈ ns → (∀ y, y ∈ ns → y ≤ m') → Q (.int m') H := fun m' h1 h2 => by
    rw [maxL_eq q3 h1 h2]
    exact k W H _ Ext.refl rel.toCRel (.int _) l
  rcases case_seq q1 with e | e
  · obtain ⟨a, vs, rfl, h, r⟩ := see_lst rel s1 e
    obtain rfl := reps_ints r q2
    exact .inl ⟨a, ns, rfl, .of h, hne, fin⟩
  · obtain ⟨a, vs, rfl, h, r, _⟩ := see_tup rel s1 e
    obtain rfl := reps_ints r q2
    exact .inr ⟨a, ns, rfl, h, hne, fin⟩
theorem cf_min2 (hc : X.calm = true) : CallF2 X ct (.builtin "min") gMin2 := by
  refine ⟨_, call_min2 hc, fun W0 H0 W σ H E M d1 d2 v1 v2 d Q rel l s1 s2 q k => ?_⟩
  unfold gMin2 at q
  split at q
  · rename_i i j e1 e2
    cases q
    obtain rfl := see_int rel s1 e1
    obtain rfl := see_int rel s2 e2
    refine ⟨i, j, rfl, ?_⟩
    have : (if j < i then j else i) = min i j := by rw [Int.min_def]; split <;> split <;> omega
    rw [this]
    exact k W H _ Ext.refl rel.toCRel (.int _) l
  · cases q
theorem cf_max2 (hc : X.calm = true) : CallF2 X ct (.builtin "max") gMax2 := by
  refine ⟨_, call_max2 hc, fun W0 H0 W σ H E M d1 d2 v1 v2 d Q rel l s1 s2 q k => ?_⟩
  unfold gMax2 at q
  split at q
  · rename_i i j e1 e2
    cases q
    obtain rfl := see_int rel s1 e1
    obtain rfl := see_int rel s2 e2
    refine ⟨i, j, rfl, ?_⟩
    have : (if j > i then j else i) = max i j := by rw [Int.max_def]; split <;> split <;> omega
    rw [this]
    exact k W H _ Ext.refl rel.toCRel (.int _) l
  · cases q
theorem cf_all (hc : X.calm = true) : CallF1 X ct (.builtin "all") gAll := by
  refine ⟨_, cr_all hc, fun W0 H0 W σ H E M d1 v1 d Q rel l s1 q k => ?_⟩
  unfold gAll at q
  split at q
  · rename_i ds e
    rw [Option.map_eq_some_iff] at q
    obtain ⟨bs, q, rfl⟩ := q
    obtain ⟨a, vs, rfl, h, r⟩ := see_lst rel s1 e
    obtain rfl := reps_bools r q
    exact ⟨a, bs, rfl, .of h, k W H _ Ext.refl rel.toCRel (.bl _) l⟩
  · cases q
theorem cf_any (hc : X.calm = true) : CallF1 X ct (.builtin "any") gAny := by
  refine ⟨_, cr_any hc, fun W0 H0 W σ H E M d1 v1 d Q rel l s1 q k => ?_⟩
  unfold gAny at q
  split at q
  · rename_i ds e
    rw [Option.map_eq_some_iff] at q
    obtain ⟨bs, q, rfl⟩ := q
    obtain ⟨a, vs, rfl, h, r⟩ := see_lst rel s1 e
    obtain rfl := reps_bools r q
    exact ⟨a, bs, rfl, .of h, k W H _ Ext.refl rel.toCRel (.bl _) l⟩
  · cases q
theorem cf_tuple : CallF1 X ct (.type "tuple") gTuple := by
  refine ⟨_, call_tuple_of, fun W0 H0 W σ H E M d1 v1 d Q rel l s1 q k => ?_⟩
  unfold gTuple at q
  rw [Option.map_eq_some_iff] at q
  obtain ⟨ds, q1, rfl⟩ := q
  rcases case_seq q1 with e | e
  · obtain ⟨a, vs, rfl, h, r⟩ := see_lst rel s1 e
    refine ⟨a, vs, rfl, .inl ⟨.of h, fun p hp => ?_⟩⟩
    have x := Ext.new (o := .tup vs) rel.toCRel hp
    exact k W _ _ x (rel.toCRel.new hp) (.tup upd_same (r.mono x.toExt0)) (l.new hp (fun _ q => by cases q) (fun _ q => by cases q; exact l.1 _ _ (.inl h)) fun _ _ q => by cases q)
  · obtain ⟨a, vs, rfl, h, r, _⟩ := see_tup rel s1 e
    exact ⟨a, vs, rfl, .inr ⟨.of h, k W H _ Ext.refl rel.toCRel (.tup h r) l⟩⟩
theorem cf_list : CallF1 X ct (.type "list") gList := by
  refine ⟨_, call_list_of, fun W0 H0 W σ H E M d1 v1 d Q rel l s1 q k => ?_⟩
  unfold gList at q
  rw [Option.map_eq_some_iff] at q
  obtain ⟨ds, q1, rfl⟩ := q
  rcases case_seq q1 with e | e
  · obtain ⟨a, vs, rfl, h, r⟩ := see_lst rel s1 e
    refine ⟨a, vs, rfl, .inl (.of h), fun p hp => ?_⟩
    have x := Ext.newZ (o := .lst vs) rel.toCRel hp
    exact k _ _ _ x (rel.toCRel.newZ hp) (.lst (.inr rfl) upd_same (r.mono x.toExt0)) (l.new hp (fun _ q => by cases q; exact l.1 _ _ (.inl h)) (fun _ q => by cases q) fun _ _ q => by cases q)
  · obtain ⟨a, vs, rfl, h, r, _⟩ := see_tup rel s1 e
    refine ⟨a, vs, rfl, .inr (.of h), fun p hp => ?_⟩
    have x := Ext.newZ (o := .lst vs) rel.toCRel hp
    exact k _ _ _ x (rel.toCRel.newZ hp) (.lst (.inr rfl) upd_same (r.mono x.toExt0)) (l.new hp (fun _ q => by cases q; exact l.2 _ _ h) (fun _ q => by cases q) fun _ _ q => by cases q)
theorem cf_abs : CallF1 X ct (.builtin "abs") gAbs := by
  refine ⟨_, call_abs, fun W0 H0 W σ H E M d1 v1 d Q rel l s1 q k => ?_⟩
  unfold gAbs at q
  split at q
  · rename_i i e
    cases q
    obtain rfl := see_int rel s1 e
    exact ⟨i, rfl, k W H _ Ext.refl rel.toCRel (.int _) l⟩
  · cases q
theorem cf_int : CallF1 X ct (.type "int") gInt := by
  refine ⟨_, call_int1, fun W0 H0 W σ H E M d1 v1 d Q rel l s1 q k => ?_⟩
  unfold gInt at q
  split at q
  · rename_i i e
    cases q
    obtain rfl := see_int rel s1 e
    exact .inl ⟨i, rfl, k W H _ Ext.refl rel.toCRel (.int _) l⟩
  · rename_i i e
    cases q
    obtain rfl := see_bl rel s1 e
    exact .inr ⟨i, rfl, by cases i <;> exact k W H _ Ext.refl rel.toCRel (.int _) l⟩
  · cases q
end
end J
namespace J
open PySem PySem.Spec L2

/-! ### isinstance -/
def tyNames : List String := ["NoneType", "bool", "int", "str", "tuple", "list", "dict"]
theorem kit_all : (tyNames.all fun a => tyNames.all fun b => kitB a b == some (subTy a b)) = true := by decide +kernel
theorem kit_at {a b : String} (ha : a ∈ tyNames) (hb : b ∈ tyNames) : kitB a b = some (subTy a b) := by
  have h := kit_all
  rw [List.all_eq_true] at h
  have h2 := h a ha
  rw [List.all_eq_true] at h2
  exact eq_of_beq (h2 b hb)
theorem tyD_mem {d : D} {a : String} (h : tyD d = some a) : a ∈ tyNames := by
  unfold tyD at h
  split at h <;> first | (cases h; decide) | cases h
theorem seen_ty {G : Gm} {W0 W : Wd} {H0 H : Hp} {σ : L2.St} {E : Env} {M : Mem} {d : D} {v : V} {a : String} (r : Rel G W0 H0 W σ H E M) (s : Seen G W H σ E d v) (h : tyD (view M d) = some a) : TyX G.K H v (.type a) := by
  rcases r.seen s with ⟨p, c, rfl, q, k⟩ | ⟨q, k⟩
  · rw [q] at h
    cases c with
    | lst ds => cases h; obtain ⟨vs, h1, _⟩ := k; exact .base (.lst h1)
    | dK ds => cases h; obtain ⟨vs, h1, _⟩ := k; exact .base (.dK h1)
    | _ => cases h
  · rw [q] at h
    cases k with
    | non => cases h; exact .base .non
    | bl b => cases h; exact .base (.bl b)
    | int b => cases h; exact .base (.int b)
    | str b => cases h; exact .base (.str b)
    | tup h1 _ => cases h; exact .base (.tup h1)
    | lst _ h1 _ => cases h; exact .base (.lst h1)
    | dK _ h1 _ _ =>
      cases h
      rcases h1 with h1 | ⟨o, h1⟩
      · exact .base (.dK h1)
      · exact .fDict h1
    | _ => cases h
section
variable {X : Cx} {ct : List (Str × List Str)} {Wx : WX} {e a b c : Expr} {es : List Expr} {f f1 f2 f3 : CE} {g : CA} {t t1 t2 : CT} {pos p2 : Pos} {rest : List Expr} {x y : Str} {p p' : Pos}
theorem pf_isi {n : String} (hn : n ∈ tyNames) (hm : X.mg "isinstance" = none) (hy : X.mg y = none) (hv : bootBuiltins y = some (.type n)) (ha : POf X ct Wx a f) (hg : Gl X "isinstance" := by rfl) (hgy : Gl X y := by rfl) (hny : y ≠ "__name__" := by decide) (hdy : (y == ("__debug__" : Str)) = false := by decide)
    (he : starEach [a, .Name y p'] X.env = (false, eval a X.env) :: starEach [.Name y p'] X.env := by rfl) (hpl : (backTo pos (starEach [.Name y p'] X.env)).any (·.1) = false := by rfl) : PF X ct Wx (.Call (.Name "isinstance" p) [a, .Name y p'] [] pos) (c1 (gIsI n) f) := by
  refine PE.fin (pe_callB call_isi hg hm (by decide +kernel) (pa_cons ha (pa_cons (pe_bltn (v := .ty n) hgy hy hv rfl hny hdy) pa_nil) he) (by decide) (by decide) he hpl) ?_
  rintro σ H Q l ⟨W0, H0, W, E, M, rel, p⟩
  refine ⟨W0, H0, W, E, M, rel, Post.bind p fun d1 M1 W1 H1 v1 _ x1 rel1 p1 l1 p => ?_⟩
  cases q : gIsI n (view M1 d1) with
  | none => rw [q] at p; exact p.elim
  | some d =>
    rw [q] at p
    unfold gIsI isI at q
    rw [Option.map_eq_some_iff] at q
    obtain ⟨b, q, rfl⟩ := q
    rw [Option.map_eq_some_iff] at q
    obtain ⟨ty, q, rfl⟩ := q
    exact ⟨v1, .ty n, .type ty, .type n, subTy ty n, rfl, .ty n, seen_ty rel1 p1 q, kit_ty (kit_at (tyD_mem q) hn), fun l'' => p W1 H1 _ Ext.refl rel1 (.bl _) l1⟩
end
end J
namespace JR
open PySem PySem.Spec PyProof.Rows L2

/-! ### enumerate of a tuple -/
theorem meets_enumerate_newT (l : Addr) (items : Array Value) (n : Nat) (dct : Option Addr) (sl : Array (Option Value)) :
    Meets (Builtin.«enumerate.__new__» ⟨[.type "enumerate", .ref l], []⟩) (fun _ R s => s.heap.get? l = some { cls := .type "tuple", dict := dct, data := .seq items n, slots := sl } ∧
      R (.ok (.ret (.ref (s.heap.push { cls := .type "tuple_iterator", data := .fields #[.ref l, .int 0 0] }).objs.size)))
        { s with heap := (s.heap.push { cls := .type "tuple_iterator", data := .fields #[.ref l, .int 0 0] }).push { cls := .type "enumerate", data := .fields #[.none, .bool false, .ref s.heap.objs.size, rawInt 0, .none, .none] } }) :=
  .of_wp fun prog w A R s h => by
    obtain ⟨hp, g, d, tk, os⟩ := s; obtain ⟨hl, h⟩ := h
    have hsub := sub_enumerate
    have hL : Heap.IsTuple (Shared.heap ⟨hp, g, d, tk, os⟩) l items := ⟨_, hl, rfl, n, rfl⟩
    wp_walk using AutoSeq1.wpAny_loadPart' hl
    refine wpAny_stack_any fun st => wpAny_pure ?_
    split
    · rename_i c _ _ _ _ _
      cases (c == Value.type "enumerate")
      · wp_walk using AutoSeq1.wpAny_loadPart' hl, wpAny_pyIter_tuple hL
        exact ⟨_, rfl, h⟩
      · wp_walk using AutoSeq1.wpAny_loadPart' hl, wpAny_pyIter_tuple hL
        exact ⟨_, rfl, h⟩
    · wp_walk using AutoSeq1.wpAny_loadPart' hl, wpAny_pyIter_tuple hL
      exact ⟨_, rfl, h⟩
theorem call_enumerate_tuple {prog : Program} {w : World} {A : Around} {E : Value → Shared → Prop} {s : Shared} {l : Addr} {items : Array Value} {Q : Value → Shared → Prop} (hL : IsTup s.heap l items)
    (h : ∀ h', IsEnum h' (s.heap.objs.size + 1) s.heap.objs.size 0 .none → h'.IsTupleIter s.heap.objs.size l 0 → h'.objs.size = s.heap.objs.size + 2 →
      (∀ b o, s.heap.get? b = some o → h'.get? b = some o) → Q (.ref (s.heap.objs.size + 1)) { s with heap := h' }) :
    wpAny (model prog w) A (call (.type "enumerate") [.ref l]) Q E s := by
  obtain ⟨⟨c, dct, dt, sl⟩, hl, hc, n, hd⟩ := hL
  replace hc : c = .type "tuple" := hc
  replace hd : dt = .seq items n := hd
  subst hc hd
  refine callType_new F.called_enumerate (by decide) (F.typeCall_enumerate_1 _) (F.newCall_enumerate_1 _) (fun obj => F.args_object_init_2 obj _) F.entry_enumerate_new
    (meets_enumerate_newT l items n dct sl) ⟨hl, ?_⟩
  have hz : (s.heap.push { cls := .type "tuple_iterator", data := .fields #[.ref l, .int 0 0] }).objs.size = s.heap.objs.size + 1 := Heap.size_push ..
  show _ ∧ _
  rw [hz]
  have he : IsEnum ((s.heap.push { cls := .type "tuple_iterator", data := .fields #[.ref l, .int 0 0] }).push
      { cls := .type "enumerate", data := .fields #[.none, .bool false, .ref s.heap.objs.size, rawInt 0, .none, .none] }) (s.heap.objs.size + 1) s.heap.objs.size 0 .none := by
    have := Heap.get?_push_size (s.heap.push { cls := .type "tuple_iterator", data := .fields #[.ref l, .int 0 0] })
      (o := { cls := .type "enumerate", data := .fields #[.none, .bool false, .ref s.heap.objs.size, rawInt 0, .none, .none] }) rfl
    rw [hz] at this; exact this
  refine ⟨⟨_, he, rfl⟩, h _ he ⟨_, Heap.get?_push_of_some _ (Heap.get?_push_size _ rfl), rfl, rfl⟩ (by rw [Heap.size_push, hz]) fun b o x => Heap.get?_push_of_some _ (Heap.get?_push_of_some _ x)⟩

def IteT (K : PySem.W.Frag) (a : Addr) : It :=
  ⟨fun i H => ∃ (xs : List V) (x : V), SqT K H a xs ∧ xs[i]? = some x, fun i H v H' => ∃ T x, v = .ref T ∧ H T = none ∧ H' = upd H T (.tup [.int (i : Nat), x]) ∧ ∀ xs, SqT K H a xs → xs[i]? = some x, fun i H => ∃ xs : List V, SqT K H a xs ∧ xs.length = i⟩
theorem turn_enumT {P : Program} {w : World} {K : PySem.W.Frag} {elts : List Expr} {kk : Nat} {tpos : Pos} (a e it : Addr) :
    Turn P w K (.Tuple elts kk tpos) (IteT K a) [e, it] e (fun i h => (∃ old, IsEnum h e it ((i : Nat) : Int) old) ∧ h.IsTupleIter it a i ∧ e ≠ it) where
  mem := by simp
  obj := fun i h st b hb => by
    obtain ⟨⟨old, he⟩, ⟨o, ho, hc, hd⟩, _⟩ := st
    have e' : b = e ∨ b = it := by simpa using hb
    rcases e' with z | z
    · rw [z]; exact ⟨_, he, fun v q => nomatch q⟩
    · rw [z]; exact ⟨o, ho, fun v q => by rw [hd] at q; cases q⟩
  keep := fun i h h' st k => let ⟨⟨old, he⟩, hi, hne⟩ := st; ⟨⟨old, k e (by simp) _ he⟩, hi.at fun o q => k it (by simp) o q, hne⟩
  item := by
    intro X hP hw hK hc i pins s σ H E I hf st hg
    subst hP hw hK
    obtain ⟨⟨old, he⟩, hit, hne⟩ := st
    obtain ⟨xs, x, hq, hx⟩ := hg
    obtain ⟨its, rv, p, hz⟩ := I.tuple hq
    obtain ⟨u, hu, ru⟩ := rv.get hx
    have hel : e < s.heap.objs.size := Heap.lt_size he
    have hil : it < s.heap.objs.size := by obtain ⟨_, q, _⟩ := hit; exact Heap.lt_size q
    have nae : a ≠ it := fun q => by
      subst q
      obtain ⟨o1, e1, c1, _⟩ := hit
      obtain ⟨o2, e2, c2, _⟩ := p
      rw [e1] at e2; cases e2
      rw [c1] at c2; exact absurd (Value.type.inj c2) (by decide)
    have nae2 : a ≠ e := fun q => by
      subst q
      obtain ⟨o2, e2, c2, _⟩ := p
      rw [show s.heap.get? a = some _ from he] at e2; cases e2
      exact absurd (Value.type.inj c2) (by decide)
    have D := Draws.tuple (prog := X.prog) (w := X.w) (A := X.A.in1) (I.ok.hd hc) it a nae its.toArray
    have WT := WalksT.enumerateD (A := X.A) D e hne (by simp [hne, Ne.symm nae2]) (by simp)
    refine WT.item i s _ _ (by simpa using (List.getElem?_eq_some_iff.mp hu).1) ⟨⟨old, he⟩, hit, p⟩ fun T vals h' tk hv hn hT mid hk => ?_
    obtain ⟨t, y, hy, rfl⟩ := hv
    have ey : y = u := by
      have hy : its.toArray[i]? = some y := hy
      rw [show its.toArray[i]? = some u by simpa using hu] at hy
      exact (Option.some.inj hy).symm
    subst ey
    refine ⟨_, rfl, WT.go elts kk tpos i T { s with heap := h', toks := tk } _ _ mid fun h'' st'' hk'' => ?_⟩
    have nT : T ∉ [e, it] := WT.apart i T h' mid
    obtain ⟨oT, eT, cT, nTt, dT⟩ := hT
    have hT2 : h''.get? T = some oT := hk'' T oT nT eT
    have new : ObjOk X.prog X.w (upd H T (.tup [.int (i : Nat), x])) h'' T (.tup [.int (i : Nat), x]) :=
      ⟨by show 2 ≤ sizeLine; decide, [.int i t, y], .cons ⟨_, rfl⟩ (.cons ru .nil), ⟨oT, hT2, cT, _, dT⟩⟩
    have I1 : Inv X pins σ (upd H T (.tup [.int (i : Nat), x])) { s with heap := h'', toks := tk } :=
      I.turnedNew (ch := [e, it]) (fun b ob hb q => hk'' b ob hb (hk b ob hb q)) hf hn new
    obtain ⟨⟨old', he'⟩, hit', _⟩ := st''
    refine ⟨.ref T, _, I1, rfl, ⟨_, x, rfl, I.hok.fresh hn, rfl, fun ys hy => by rw [I.tuple_inj hy hq]; exact hx⟩, ⟨⟨old', he'⟩, hit', hne⟩, fun b hb => ?_⟩
    have hb' : b < s.heap.objs.size := by
      have e' : b = e ∨ b = it := by simpa using hb
      rcases e' with z | z
      · rw [z]; exact hel
      · rw [z]; exact hil
    rw [upd_ne (Nat.ne_of_lt (Nat.lt_of_lt_of_le hb' hn))]
    exact (hf b hb).1
  done := by
    intro X hP hw hK hc i pins s σ H E I hf st hg
    subst hP hw hK
    obtain ⟨⟨old, he⟩, hit, hne⟩ := st
    obtain ⟨xs, hq, hx⟩ := hg
    obtain ⟨its, rv, p, hz⟩ := I.tuple hq
    have hl := rv.length
    have nae : a ≠ it := fun q => by
      subst q
      obtain ⟨o1, e1, c1, _⟩ := hit
      obtain ⟨o2, e2, c2, _⟩ := p
      rw [e1] at e2; cases e2
      rw [c1] at c2; exact absurd (Value.type.inj c2) (by decide)
    have nae2 : a ≠ e := fun q => by
      subst q
      obtain ⟨o2, e2, c2, _⟩ := p
      rw [show s.heap.get? a = some _ from he] at e2; cases e2
      exact absurd (Value.type.inj c2) (by decide)
    have D := Draws.tuple (prog := X.prog) (w := X.w) (A := X.A.in1) (I.ok.hd hc) it a nae its.toArray
    have WT := WalksT.enumerateD (A := X.A) D e hne (by simp [hne, Ne.symm nae2]) (by simp)
    have en : i = its.toArray.size := by rw [List.size_toArray, ← hl, hx]
    subst en
    exact WT.done s _ _ ⟨⟨old, he⟩, hit, p⟩ fun h' tk hk => ⟨rfl, I.turnedL (t' := tk) (ch := [e, it]) hk hf⟩
  self := fun A i s Q E st h => let ⟨⟨_, he⟩, _⟩ := st; wpAny_pyIter_enum he h

/-- enumerate of a list or a tuple -/
def iEnumS (K : PySem.W.Frag) (ta : TA) : TI := fun σ H R => ta σ H fun vs H1 => ∃ a xs, vs = [.ref a] ∧ ((SqL K H1 a xs ∧ R (Ite K a) H1) ∨ (SqT K H1 a xs ∧ R (IteT K a) H1))
theorem pi_enumS {X : Cx} {e : Expr} {ta : TA} {p pos tpos : Pos} {elts : List Expr} {kk : Nat} (hg : Gl X "enumerate") (hm : X.mg "enumerate" = none) (ha : PA X [e] ta) (hs : starEach [e] X.env = [(false, eval e X.env)] := by rfl) :
    PI X (.Tuple elts kk tpos) (.Call (.Name "enumerate" p) [e] [] pos) (iEnumS X.K ta) := by
  refine ⟨fun pins s σ H R I h => ?_⟩
  refine Call_ (ld_blt I hg hm boot_enumerate (PyProof.Rows.callWith_type1 (thn (ha.run pos pins s σ H _ I h) fun us s1 ⟨vs, H1, I1, r1, q1⟩ => ?_) hs rfl))
  obtain ⟨a, xs, ex, q1⟩ := q1
  subst ex
  have fp : ∀ b, (b = s1.heap.objs.size + 1 ∨ b = s1.heap.objs.size) → FpOk X pins H1 b := fun b e' => by
    have hle : s1.heap.objs.size ≤ b := by
      rcases e' with z | z
      · rw [z]; exact Nat.le_add_right _ _
      · rw [z]; exact Nat.le_refl _
    exact I1.fpOk hle (I1.hok.fresh hle)
  cases r1 with
  | cons r rr =>
    cases rr
    cases r
    rcases q1 with ⟨hq, q⟩ | ⟨hq, q⟩
    · obtain ⟨its, rv, p', hz⟩ := I1.list hq
      refine call_enumerate_list p'.isList fun h' he hit hsz hk => wpAny_pyIter_enum he ?_
      have I2 : Inv X pins σ H1 { s1 with heap := h' } := I1.kept (t' := s1.toks) hk
      exact ⟨s1.heap.objs.size + 1, [s1.heap.objs.size + 1, s1.heap.objs.size], _, _, H1, rfl, I2, turn_enum a (s1.heap.objs.size + 1) s1.heap.objs.size, ⟨⟨.none, he⟩, hit, Nat.succ_ne_self _⟩, fun b hb => fp b (by simpa using hb), q⟩
    · obtain ⟨its, rv, p', hz⟩ := I1.tuple hq
      refine call_enumerate_tuple p' fun h' he hit hsz hk => wpAny_pyIter_enum he ?_
      have I2 : Inv X pins σ H1 { s1 with heap := h' } := I1.kept (t' := s1.toks) hk
      exact ⟨s1.heap.objs.size + 1, [s1.heap.objs.size + 1, s1.heap.objs.size], _, _, H1, rfl, I2, turn_enumT a (s1.heap.objs.size + 1) s1.heap.objs.size, ⟨⟨.none, he⟩, hit, Nat.succ_ne_self _⟩, fun b hb => fp b (by simpa using hb), q⟩
/-- a list or a tuple itself -/
def iSeqS (K : PySem.W.Frag) (tl : TE) : TI := fun σ H R => tl σ H fun x H1 => ∃ a xs, x = .ref a ∧ ((SqL K H1 a xs ∧ R (Itl K a) H1) ∨ (SqT K H1 a xs ∧ R (Itt K a) H1))
theorem pi_seqS {X : Cx} {tg l : Expr} {tl : TE} (hl : PE X l tl) : PI X tg l (iSeqS X.K tl) := by
  refine ⟨fun pins s σ H R I h => ?_⟩
  refine thn (hl.run pins s σ H _ I h) fun v s1 ⟨x, H1, I1, r1, q1⟩ => ?_
  obtain ⟨a, xs, e, q1⟩ := q1
  subst e
  cases r1
  have fp : ∀ b, b = s1.heap.objs.size → FpOk X pins H1 b := fun b e' => by
    subst e'
    exact I1.fpOk (Nat.le_refl _) (I1.hok.fresh (Nat.le_refl _))
  rcases q1 with ⟨hq, q⟩ | ⟨hq, q⟩
  · obtain ⟨its, rv, p, hz⟩ := I1.list hq
    refine wpAny_pyIter_list p.isList ?_
    exact ⟨s1.heap.objs.size, [s1.heap.objs.size], _, _, H1, rfl, I1.kept (t' := s1.toks) fun b o e => Heap.get?_push_of_some _ e, turn_list a _, ⟨_, Heap.get?_push_size _ rfl, rfl, rfl⟩, fun b hb => fp b (by simpa using hb), q⟩
  · obtain ⟨its, rv, p, hz⟩ := I1.tuple hq
    refine wpAny_pyIter_tuple (show s1.heap.IsTuple a its.toArray from p) ?_
    exact ⟨s1.heap.objs.size, [s1.heap.objs.size], _, _, H1, rfl, I1.kept (t' := s1.toks) fun b o e => Heap.get?_push_of_some _ e, turn_tuple a _, ⟨_, Heap.get?_push_size _ rfl, rfl, rfl⟩, fun b hb => fp b (by simpa using hb), q⟩
end JR
namespace J
open PySem PySem.Spec L2

section
variable {G : Gm} {Wx : WX} {W0 W W1 W' : Wd} {H0 H H1 H' : Hp} {σ : L2.St} {E : Env} {M M1 : Mem} {d : D} {v : V} {ds : List D}

/-! ### slots -/
theorem Rel.set (r : Rel G W0 H0 W σ H E M) (i : Nat) (h : Rep G W H d v) : Rel G W0 H0 W (σ.set i (some v)) H (E.set i (.sh d)) M := by
  refine ⟨r.toCRel, r.ext, fun j s hs => ?_, by rw [List.length_set, List.length_set]; exact r.sz, fun j k c c' a h1 h2 h3 h4 => ?_⟩
  · by_cases e : i = j
    · subst e
      have hl : i < E.length := by
        have := (List.getElem?_eq_some_iff.mp hs).1
        rwa [List.length_set] at this
      rw [List.getElem?_set_self hl] at hs
      cases hs
      exact ⟨v, by rw [List.getElem?_set_self (by rw [← r.sz]; exact hl)], h⟩
    · rw [List.getElem?_set_ne e] at hs
      have q := r.slt j s hs
      cases s with
      | un => exact True.intro
      | sh d => obtain ⟨w, e2, h2⟩ := q; exact ⟨w, by rw [List.getElem?_set_ne e]; exact e2, h2⟩
      | ow c => obtain ⟨a, e2, h2⟩ := q; exact ⟨a, by rw [List.getElem?_set_ne e]; exact e2, h2⟩
  · have n1 : i ≠ j := fun e => by
      subst e
      have hl : i < E.length := by
        have := (List.getElem?_eq_some_iff.mp h1).1
        rwa [List.length_set] at this
      rw [List.getElem?_set_self hl] at h1; cases h1
    have n2 : i ≠ k := fun e => by
      subst e
      have hl : i < E.length := by
        have := (List.getElem?_eq_some_iff.mp h2).1
        rwa [List.length_set] at this
      rw [List.getElem?_set_self hl] at h2; cases h2
    rw [List.getElem?_set_ne n1] at h1 h3
    rw [List.getElem?_set_ne n2] at h2 h4
    exact r.own j k c c' a h1 h2 h3 h4
theorem jwipe_length (E : Env) : ∀ vs : List Nat, (J.wipe E vs).length = E.length
  | [] => rfl
  | v :: vs => by unfold J.wipe; rw [List.length_set, jwipe_length E vs]
theorem jwipe_at {i : Nat} {s : Sl} : ∀ {vs : List Nat}, (J.wipe E vs)[i]? = some s → s = .un ∨ (i ∉ vs ∧ E[i]? = some s)
  | [], h => .inr ⟨by simp, h⟩
  | v :: vs, h => by
    unfold J.wipe at h
    by_cases e : v = i
    · subst e
      have hl : v < (J.wipe E vs).length := by
        have := (List.getElem?_eq_some_iff.mp h).1
        rwa [List.length_set] at this
      rw [List.getElem?_set_self hl] at h
      cases h
      exact .inl rfl
    · rw [List.getElem?_set_ne e] at h
      rcases jwipe_at h with q | ⟨q1, q2⟩
      · exact .inl q
      · exact .inr ⟨fun z => by rcases List.mem_cons.mp z with z | z; exact e z.symm; exact q1 z, q2⟩
theorem Rel.wipe (r : Rel G W0 H0 W σ H E M) (vs : List Nat) : Rel G W0 H0 W (L2.wipe σ vs) H (J.wipe E vs) M := by
  refine ⟨r.toCRel, r.ext, fun j s hs => ?_, by rw [jwipe_length, wipe_length]; exact r.sz, fun j k c c' a h1 h2 h3 h4 => ?_⟩
  · rcases jwipe_at hs with q | ⟨q1, q2⟩
    · subst q; exact True.intro
    · have q := r.slt j s q2
      cases s with
      | un => exact True.intro
      | sh d => obtain ⟨w, e2, h2⟩ := q; exact ⟨w, by rw [wipe_out q1]; exact e2, h2⟩
      | ow c => obtain ⟨a, e2, h2⟩ := q; exact ⟨a, by rw [wipe_out q1]; exact e2, h2⟩
  · rcases jwipe_at h1 with q | ⟨q1, q2⟩
    · cases q
    · rcases jwipe_at h2 with p | ⟨p1, p2⟩
      · cases p
      · rw [wipe_out q1] at h3
        rw [wipe_out p1] at h4
        exact r.own j k c c' a q2 p2 h3 h4

/-! ### targets -/
end
section
variable {X : Cx} {ct : List (Str × List Str)} {Wx : WX} {e a b c tg iter elt : Expr} {es : List Expr} {f f1 f2 f3 : CE} {g : CA} {t t1 t2 : CT} {pos p2 : Pos} {rest : List Expr} {x y : Str} {p p' : Pos}
/-- a target: g says what it does; is are its slots -/
def PGf (X : Cx) (ct : List (Str × List Str)) (tg : Expr) (is : List Nat) (gt : TG) (g : CG) : Prop :=
  PG X tg gt ∧ ∀ W0 H0 W σ H E M d v E' (Q : L2.St → Hp → Prop), Rel (Gx X ct) W0 H0 W σ H E M → Rep (Gx X ct) W H d v → g d E = some E' →
    (∀ σ', Rel (Gx X ct) W0 H0 W σ' H E' M → (∀ vs, (∀ i ∈ is, i ∈ vs) → L2.wipe σ' vs = L2.wipe σ vs) → Q σ' H) → gt v σ H Q
def PGfs (X : Cx) (ct : List (Str × List Str)) (tgs : List Expr) (is : List Nat) (gt : TGs) (gs : List CG) : Prop :=
  PGs X tgs gt ∧ ∀ W0 H0 W σ H E M ds vs E' (Q : L2.St → Hp → Prop), Rel (Gx X ct) W0 H0 W σ H E M → Reps (Gx X ct) W H ds vs → gsN gs ds E = some E' →
    (∀ σ', Rel (Gx X ct) W0 H0 W σ' H E' M → (∀ vs, (∀ i ∈ is, i ∈ vs) → L2.wipe σ' vs = L2.wipe σ vs) → Q σ' H) → gt vs σ H Q
theorem wipe_set {σ : L2.St} {i : Nat} {v : V} : ∀ {vs : List Nat}, i ∈ vs → L2.wipe (σ.set i (some v)) vs = L2.wipe σ vs
  | [], h => by cases h
  | j :: vs, h => by
    unfold L2.wipe
    by_cases e : i = j
    · subst e
      by_cases m : i ∈ vs
      · rw [wipe_set m]
      · have : ∀ (vs : List Nat), i ∉ vs → (L2.wipe (σ.set i (some v)) vs).set i none = (L2.wipe σ vs).set i none := by
          intro vs
          induction vs with
          | nil => intro _; unfold L2.wipe; rw [List.set_set]
          | cons k vs ih =>
            intro hm
            unfold L2.wipe
            have n : k ≠ i := fun e => hm (by rw [e]; exact List.mem_cons_self)
            rw [List.set_comm _ _ n, ih (fun z => hm (List.mem_cons_of_mem _ z)), List.set_comm _ _ n]
        exact this vs m
    · rcases List.mem_cons.mp h with z | z
      · exact (e z).elim
      · rw [wipe_set z]
theorem pg_n (i : Nat) (hN : X.N.Nodup) (hi : X.N[i]? = some x := by rfl) (hx : Loc X.env.scope x := by first | exact .inl rfl | exact .inr rfl) (hf : X.fn x = true ∨ X.env.scope.names.lookup x = some .local := by first | exact .inl rfl | exact .inr rfl | assumption) : PGf X ct (.Name x pos) [i] (gName i) (gN i) := by
  refine ⟨pg_name hN hi hx hf, fun W0 H0 W σ H E M d v E' Q rel r h k => ?_⟩
  cases h
  exact k _ (rel.set i r) fun vs h => wipe_set (h i List.mem_cons_self)
theorem pgs_n : PGfs X ct [] [] gNil [] := by
  refine ⟨pgs_nil, fun W0 H0 W σ H E M ds vs E' Q rel r h k => ?_⟩
  cases r with
  | nil => cases h; exact ⟨rfl, k _ rel fun vs _ => rfl⟩
  | cons _ _ => cases h
theorem pgs_c {is js : List Nat} {gg : CG} {gs : List CG} {g1 : TG} {g2 : TGs} (h1 : PGf X ct e is g1 gg) (h2 : PGfs X ct es js g2 gs) (hs : (assignEach (e :: es) X.env).map (·.2) = assign e X.env :: (assignEach es X.env).map (·.2) := by rfl) : PGfs X ct (e :: es) (is ++ js) (gCons g1 g2) (gg :: gs) := by
  obtain ⟨a1, k1⟩ := h1
  obtain ⟨a2, k2⟩ := h2
  refine ⟨pgs_cons a1 a2 hs, fun W0 H0 W σ H E M ds vs E' Q rel r h k => ?_⟩
  cases r with
  | nil => cases h
  | @cons d ds v vs r rs =>
    rw [gsN, Option.bind_eq_some_iff] at h
    obtain ⟨E1, h1, h2⟩ := h
    refine ⟨v, vs, rfl, k1 W0 H0 W σ H E M d v E1 _ rel r h1 fun σ1 rel1 w1 => ?_⟩
    refine k2 W0 H0 W σ1 H E1 M ds vs E' Q rel1 rs h2 fun σ2 rel2 w2 => k σ2 rel2 fun vs hv => ?_
    rw [w2 vs fun i hi => hv i (List.mem_append_right _ hi), w1 vs fun i hi => hv i (List.mem_append_left _ hi)]
theorem gsN_len : ∀ {gs : List CG} {ds : List D} {E E' : Env}, gsN gs ds E = some E' → ds.length = gs.length
  | [], [], _, _, _ => rfl
  | [], _ :: _, _, _, h => by cases h
  | _ :: _, [], _, _, h => by cases h
  | g :: gs, d :: ds, E, E', h => by
    rw [gsN, Option.bind_eq_some_iff] at h
    obtain ⟨E1, _, h2⟩ := h
    rw [List.length_cons, List.length_cons, gsN_len h2]
theorem pg_t {k : Nat} {is : List Nat} {gs : List CG} {g1 : TGs} (hc : X.calm = true) (h : PGfs X ct es is g1 gs) (hn : (assignEach es X.env).length = gs.length := by rfl) (hst : (assignEach es X.env).findIdx? (·.1) = none := by rfl) : PGf X ct (.Tuple es k pos) is (gTup X.K gs.length g1) (gT gs) := by
  obtain ⟨a1, k1⟩ := h
  refine ⟨pg_tup hc a1 hn hst, fun W0 H0 W σ H E M d v E' Q rel r h k => ?_⟩
  cases r with
  | @tup p vs ds h1 r =>
    have h : gsN gs ds E = some E' := h
    exact ⟨p, vs, rfl, .of h1, by rw [← r.length]; exact gsN_len h, k1 W0 H0 W σ H E M ds vs E' Q rel r h k⟩
  | _ => cases h

/-! ### what is walked -/
def IterOk (G : Gm) (W : Wd) (H : Hp) (ds : List D) (J : It) : Prop :=
  ∀ W' H' M', Ext0 W H W' H' → CRel G W' H' M' → LenOk H' → ∀ i, i ≤ ds.length → (∀ d, ds[i]? = some d → J.go i H' ∧ ∀ x H'', J.yld i H' x H'' → ∃ W'', Ext W' H' W'' H'' ∧ CRel G W'' H'' M' ∧ Rep G W'' H'' d x ∧ LenOk H'') ∧ (i = ds.length → J.stop i H')
def tI (G : Gm) (Wx : WX) (f : CA) : TI := fun σ H R => ∃ W0 H0 W E M, Rel G W0 H0 W σ H E M ∧ Post G Wx (fun W' H' ds J => IterOk G W' H' ds J ∧ ds.length ≤ sizeLine) W0 H0 W H σ E (f E M) R
abbrev PIf (X : Cx) (ct : List (Str × List Str)) (Wx : WX) (tg iter : Expr) (f : CA) : Prop := PI X tg iter (tI (Gx X ct) Wx f)
theorem PI_fin {wi wi' : TI} (h : PI X tg iter wi) (hw : ∀ σ H R, LenOk H → wi' σ H R → wi σ H (fun J H' => LenOk H' → R J H')) : PI X tg iter wi' :=
  ⟨fun pins s σ H R I q => thn (h.run pins s σ H _ I (hw σ H R (lenOk_of I) q)) fun v s1 h1 => thn h1 fun u s2 ⟨it, fp, tn, J, H', e, I', T, st, hf, r⟩ => ⟨it, fp, tn, J, H', e, I', T, st, hf, r (lenOk_of I')⟩⟩
theorem reps_at {G : Gm} {W : Wd} {H : Hp} {ds : List D} {vs : List V} {i : Nat} {d : D} {x : V} (r : Reps G W H ds vs) (h : ds[i]? = some d) (hx : vs[i]? = some x) : Rep G W H d x := by
  obtain ⟨v, h1, h2⟩ := r.get h
  rw [h1] at hx; cases hx
  exact h2
theorem sqL_fix {K : PySem.W.Frag} {H : Hp} {a : Addr} {xs ys : List V} (h : H a = some (.lst xs)) (hk : SqL K H a ys → ys = xs) : True := trivial
theorem pi_seq (h : PF X ct Wx a f) : PIf X ct Wx tg a (iSeq f) := by
  refine PI_fin (JR.pi_seqS h) ?_
  rintro σ H R l ⟨W0, H0, W, E, M, rel, p⟩
  refine ⟨W0, H0, W, E, M, rel, Post.bind p fun d1 M1 W1 H1 v1 _ x1 rel1 p1 l1 p => ?_⟩
  cases p1 with
  | @lst q vs ds z h r =>
    refine ⟨q, vs, rfl, .inl ⟨.of h, fun l' => p W1 H1 _ Ext.refl rel1 ⟨fun W' H' M' x c l2 i hi => ⟨fun d hd => ?_, fun hi => ?_⟩, by rw [r.length]; exact l1.1 _ _ (.inl h)⟩ l1⟩⟩
    · have h' := x.ls _ _ z h
      obtain ⟨w, hw, rw'⟩ := r.get hd
      refine ⟨⟨vs, w, .of h', hw⟩, fun y H'' hy => ?_⟩
      obtain ⟨rfl, hy⟩ := hy
      exact ⟨W', Ext.refl, c, reps_at (r.mono x) hd (hy vs (.of h')), l2⟩
    · exact ⟨vs, .of (x.ls _ _ z h), by rw [hi, r.length]; exact Nat.le_refl _⟩
  | @tup q vs ds h r =>
    refine ⟨q, vs, rfl, .inr ⟨.of h, fun l' => p W1 H1 _ Ext.refl rel1 ⟨fun W' H' M' x c l2 i hi => ⟨fun d hd => ?_, fun hi => ?_⟩, by rw [r.length]; exact l1.2 _ _ h⟩ l1⟩⟩
    · have h' := x.tp _ _ h
      obtain ⟨w, hw, rw'⟩ := r.get hd
      refine ⟨⟨vs, w, .of h', hw⟩, fun y H'' hy => ?_⟩
      obtain ⟨rfl, hy⟩ := hy
      exact ⟨W', Ext.refl, c, reps_at (r.mono x) hd (hy vs (.of h')), l2⟩
    · exact ⟨vs, .of (x.tp _ _ h), by rw [hi, r.length]; exact Nat.le_refl _⟩
  | @scr q vs ds h r =>
    have sq : ∀ {W' H'}, Ext0 W1 H1 W' H' → SqL X.K H' q vs := fun x => by
      rcases h with ⟨o, h⟩ | h
      · exact .inl (.inr ⟨o, x.fz _ _ _ h⟩)
      · exact .inr h
    have hz : vs.length ≤ sizeLine := by
      rcases h with ⟨o, h⟩ | ⟨o, its, n, _, _, _, _, hz, rv⟩
      · exact l1.1 _ _ (.inr ⟨o, h⟩)
      · have := rv.length
        simp only [Array.length_toList] at this
        omega
    refine ⟨q, vs, rfl, .inl ⟨sq Ext0.refl, fun l' => p W1 H1 _ Ext.refl rel1 ⟨fun W' H' M' x c l2 i hi => ⟨fun d hd => ?_, fun hi => ?_⟩, by rw [r.length]; exact hz⟩ l1⟩⟩
    · obtain ⟨w, hw, rw'⟩ := r.get hd
      refine ⟨⟨vs, w, sq x, hw⟩, fun y H'' hy => ?_⟩
      obtain ⟨rfl, hy⟩ := hy
      exact ⟨W', Ext.refl, c, reps_at (r.mono x) hd (hy vs (sq x)), l2⟩
    · exact ⟨vs, sq x, by rw [hi, r.length]; exact Nat.le_refl _⟩
  | _ => exact False.elim p
theorem upFrom_at : ∀ (n : Nat) (a : Int) (i : Nat) (d : D), (upFrom a n)[i]? = some d → i < n ∧ d = .int (a + i)
  | 0, a, i, d, h => by simp [upFrom] at h
  | n + 1, a, 0, d, h => by
    simp [upFrom] at h
    subst h
    exact ⟨Nat.succ_pos _, by simp⟩
  | n + 1, a, i + 1, d, h => by
    have h : (upFrom (a + 1) n)[i]? = some d := by simpa [upFrom] using h
    obtain ⟨h1, h2⟩ := upFrom_at n (a + 1) i d h
    refine ⟨Nat.succ_lt_succ h1, ?_⟩
    rw [h2]
    congr 1
    push_cast
    omega
theorem upFrom_len : ∀ (n : Nat) (a : Int), (upFrom a n).length = n
  | 0, _ => rfl
  | n + 1, a => by rw [upFrom, List.length_cons, upFrom_len n]
theorem iter_rng {G : Gm} {W : Wd} {H : Hp} (a : Int) (n : Nat) : IterOk G W H (upFrom a n) (Itr a n) := fun W' H' M' x c l i hi => by
  rw [upFrom_len] at *
  refine ⟨fun d hd => ?_, fun hi => ?_⟩
  · obtain ⟨h1, h2⟩ := upFrom_at n a i d hd
    subst h2
    exact ⟨h1, fun y H'' ⟨e1, e2⟩ => by subst e1 e2; exact ⟨W', Ext.refl, c, .int _, l⟩⟩
  · subst hi; exact Nat.le_refl _
theorem pi_rng (hm : X.mg "range" = none) (h : PF X ct Wx a f) (hg : Gl X "range" := by rfl) (hs : starEach [a] X.env = [(false, eval a X.env)] := by rfl) (hs' : starEach [a] X.env = (false, eval a X.env) :: starEach [] X.env := by rfl) : PIf X ct Wx tg (.Call (.Name "range" p) [a] [] pos) (iRng f) := by
  refine PI_fin (pi_range1 hg hm (pa_cons h pa_nil hs') hs) ?_
  rintro σ H R l ⟨W0, H0, W, E, M, rel, p⟩
  refine ⟨W0, H0, W, E, M, rel, Post.bind p fun d1 M1 W1 H1 v1 _ x1 rel1 p1 l1 p => ?_⟩
  cases p1 with
  | int n =>
    dsimp only at p
    split at p
    · rename_i c
      have c : n.natAbs ≤ 16777216 := c
      exact ⟨n, rfl, by omega, by omega, fun l' => p W1 H1 _ Ext.refl rel1 ⟨iter_rng 0 n.toNat, by rw [upFrom_len]; show n.toNat ≤ 16777216; omega⟩ l1⟩
    · exact False.elim p
  | _ => exact False.elim p
theorem pi_rng2 (hm : X.mg "range" = none) (h1 : PF X ct Wx a f1) (h2 : PF X ct Wx b f2) (hg : Gl X "range" := by rfl) (hs : starEach [a, b] X.env = [(false, eval a X.env), (false, eval b X.env)] := by rfl) (hs2 : starEach [b] X.env = [(false, eval b X.env)] := by rfl)
    (hs' : starEach [a, b] X.env = (false, eval a X.env) :: starEach [b] X.env := by rfl) (hs2' : starEach [b] X.env = (false, eval b X.env) :: starEach [] X.env := by rfl) : PIf X ct Wx tg (.Call (.Name "range" p) [a, b] [] pos) (iRng2 f1 f2) := by
  refine PI_fin (pi_range2 hg hm (pa_cons h1 (pa_cons h2 pa_nil hs2') hs') hs hs2) ?_
  rintro σ H R l ⟨W0, H0, W, E, M, rel, p⟩
  refine ⟨W0, H0, W, E, M, rel, Post.bind p fun d1 M1 W1 H1 v1 _ x1 rel1 p1 l1 p => ?_⟩
  refine ⟨W0, H0, W1, E, M1, rel1, Post.bind p fun d2 M2 W2 H2 v2 _ x2 rel2 p2 l2 p => ?_⟩
  cases p1 with
  | int i =>
    cases p2 with
    | int j =>
      dsimp only at p
      split at p
      · rename_i c
        have c1 : i.natAbs ≤ 16777216 := c.1
        have c2 : j.natAbs ≤ 16777216 := c.2.1
        refine ⟨i, j, rfl, ⟨by omega, by omega, by omega, by omega⟩, fun l' => p W2 H2 _ Ext.refl rel2 ⟨iter_rng i (j - i).toNat, ?_⟩ l2⟩
        rw [upFrom_len]
        exact c.2.2
      · exact False.elim p
    | _ => exact False.elim p
  | _ => cases p2 <;> exact False.elim p
theorem pairUp_at : ∀ (as bs : List D) (i : Nat) (d : D), (pairUp as bs)[i]? = some d → ∃ x y, as[i]? = some x ∧ bs[i]? = some y ∧ d = .tup [x, y]
  | [], _, i, d, h => by simp [pairUp] at h
  | _ :: _, [], i, d, h => by simp [pairUp] at h
  | a :: as, b :: bs, 0, d, h => by
    simp [pairUp] at h
    subst h
    exact ⟨a, b, by simp, by simp, rfl⟩
  | a :: as, b :: bs, i + 1, d, h => by
    have h : (pairUp as bs)[i]? = some d := by simpa [pairUp] using h
    obtain ⟨x, y, h1, h2, h3⟩ := pairUp_at as bs i d h
    exact ⟨x, y, by simpa using h1, by simpa using h2, h3⟩
theorem pairUp_len : ∀ (as bs : List D), (pairUp as bs).length = min as.length bs.length
  | [], _ => by simp [pairUp]
  | _ :: _, [] => by simp [pairUp]
  | a :: as, b :: bs => by
    rw [pairUp, List.length_cons, pairUp_len as bs, List.length_cons, List.length_cons]
    omega
theorem new_pair {G : Gm} {W' : Wd} {H' : Hp} {M' : Mem} {T : Addr} {d1 d2 : D} {v1 v2 : V} (c : CRel G W' H' M') (l2 : LenOk H') (hT : H' T = none) (r1 : Rep G W' H' d1 v1) (r2 : Rep G W' H' d2 v2) :
    ∃ W'', Ext W' H' W'' (upd H' T (.tup [v1, v2])) ∧ CRel G W'' (upd H' T (.tup [v1, v2])) M' ∧ Rep G W'' (upd H' T (.tup [v1, v2])) (.tup [d1, d2]) (.ref T) ∧ LenOk (upd H' T (.tup [v1, v2])) := by
  have x := Ext.new (o := .tup [v1, v2]) c hT
  exact ⟨W', x, c.new hT, .tup upd_same (.cons (r1.mono x.toExt0) (.cons (r2.mono x.toExt0) .nil)), l2.new hT (fun _ q => by cases q) (fun _ q => by cases q; show 2 ≤ 16777216; decide) fun _ _ q => by cases q⟩
theorem pi_enm {elts : List Expr} {kk : Nat} {tpos : Pos} (hm : X.mg "enumerate" = none) (h : PF X ct Wx a f) (hg : Gl X "enumerate" := by rfl) (hs : starEach [a] X.env = [(false, eval a X.env)] := by rfl) (hs' : starEach [a] X.env = (false, eval a X.env) :: starEach [] X.env := by rfl) : PIf X ct Wx (.Tuple elts kk tpos) (.Call (.Name "enumerate" p) [a] [] pos) (iEnum f) := by
  refine PI_fin (JR.pi_enumS hg hm (pa_cons h pa_nil hs') hs) ?_
  rintro σ H R l ⟨W0, H0, W, E, M, rel, p⟩
  refine ⟨W0, H0, W, E, M, rel, Post.bind p fun d1 M1 W1 H1 v1 _ x1 rel1 p1 l1 p => ?_⟩
  have lenp : ∀ ds : List D, (pairUp (upFrom 0 ds.length) ds).length = ds.length := fun ds => by rw [pairUp_len, upFrom_len, Nat.min_self]
  cases p1 with
  | @lst q vs ds z h r =>
    refine ⟨q, vs, rfl, .inl ⟨.of h, fun l' => p W1 H1 _ Ext.refl rel1 ⟨fun W' H' M' x c l2 i hi => ⟨fun d hd => ?_, fun hi => ?_⟩, by rw [lenp, r.length]; exact l1.1 _ _ (.inl h)⟩ l1⟩⟩
    · have h' := x.ls _ _ z h
      obtain ⟨d1, d2, e1, e2, rfl⟩ := pairUp_at _ _ _ _ hd
      obtain ⟨_, rfl⟩ := upFrom_at _ _ _ _ e1
      obtain ⟨w, hw, rw'⟩ := r.get e2
      refine ⟨⟨vs, w, .of h', hw⟩, fun y H'' hy => ?_⟩
      obtain ⟨T, y, rfl, hT, rfl, hy⟩ := hy
      rw [show (0 : Int) + (i : Int) = (i : Int) by omega]
      exact new_pair c l2 hT (.int _) (reps_at (r.mono x) e2 (hy vs (.of h')))
    · exact ⟨vs, .of (x.ls _ _ z h), by rw [hi, lenp, r.length]; exact Nat.le_refl _⟩
  | @tup q vs ds h r =>
    refine ⟨q, vs, rfl, .inr ⟨.of h, fun l' => p W1 H1 _ Ext.refl rel1 ⟨fun W' H' M' x c l2 i hi => ⟨fun d hd => ?_, fun hi => ?_⟩, by rw [lenp, r.length]; exact l1.2 _ _ h⟩ l1⟩⟩
    · have h' := x.tp _ _ h
      obtain ⟨d1, d2, e1, e2, rfl⟩ := pairUp_at _ _ _ _ hd
      obtain ⟨_, rfl⟩ := upFrom_at _ _ _ _ e1
      obtain ⟨w, hw, rw'⟩ := r.get e2
      refine ⟨⟨vs, w, .of h', hw⟩, fun y H'' hy => ?_⟩
      obtain ⟨T, y, rfl, hT, rfl, hy⟩ := hy
      rw [show (0 : Int) + (i : Int) = (i : Int) by omega]
      exact new_pair c l2 hT (.int _) (reps_at (r.mono x) e2 (hy vs (.of h')))
    · exact ⟨vs, .of (x.tp _ _ h), by rw [hi, lenp, r.length]⟩
  | @scr q vs ds h r =>
    have sq : ∀ {W' H'}, Ext0 W1 H1 W' H' → SqL X.K H' q vs := fun x => by
      rcases h with ⟨o, h⟩ | h
      · exact .inl (.inr ⟨o, x.fz _ _ _ h⟩)
      · exact .inr h
    have hz : vs.length ≤ sizeLine := by
      rcases h with ⟨o, h⟩ | ⟨o, its, n, _, _, _, _, hz, rv⟩
      · exact l1.1 _ _ (.inr ⟨o, h⟩)
      · have := rv.length
        simp only [Array.length_toList] at this
        omega
    refine ⟨q, vs, rfl, .inl ⟨sq Ext0.refl, fun l' => p W1 H1 _ Ext.refl rel1 ⟨fun W' H' M' x c l2 i hi => ⟨fun d hd => ?_, fun hi => ?_⟩, by rw [lenp, r.length]; exact hz⟩ l1⟩⟩
    · obtain ⟨d1, d2, e1, e2, rfl⟩ := pairUp_at _ _ _ _ hd
      obtain ⟨_, rfl⟩ := upFrom_at _ _ _ _ e1
      obtain ⟨w, hw, rw'⟩ := r.get e2
      refine ⟨⟨vs, w, sq x, hw⟩, fun y H'' hy => ?_⟩
      obtain ⟨T, y, rfl, hT, rfl, hy⟩ := hy
      rw [show (0 : Int) + (i : Int) = (i : Int) by omega]
      exact new_pair c l2 hT (.int _) (reps_at (r.mono x) e2 (hy vs (sq x)))
    · exact ⟨vs, sq x, by rw [hi, lenp, r.length]; exact Nat.le_refl _⟩
  | _ => exact False.elim p
end
end J
namespace J
open PySem PySem.Spec L2

section
variable {G : Gm} {Wx : WX} {W0 W W1 W' : Wd} {H0 H H1 H' : Hp} {σ : L2.St} {E : Env} {M M1 : Mem} {d : D} {v : V} {ds : List D}
/-! ### a list that grows aside -/
/-- p is nobody's: not a cell's address, not frozen, no slot's own -/
structure Aside (W : Wd) (σ : L2.St) (E : Env) (p : Addr) : Prop where
  ph : p ∉ W.phi
  z : ¬ W.Z p
  ow : ∀ (i : Nat) c, E[i]? = some (.ow c) → σ[i]? ≠ some (some (.ref p))
theorem Ext0.aside {p : Addr} {xs ys : List V} (h : H p = some (.lst xs)) (z : ¬ W.Z p) : Ext0 W H W (upd H p (.lst ys)) := by
  have ne : ∀ a u, H a = some u → u ≠ .lst xs → a ≠ p := fun a u e n q => by subst q; rw [h] at e; exact n (Option.some.inj e).symm
  refine ⟨⟨⟨[], by simp⟩, fun _ z => z, fun a u za f r => ?_, fun a vs za e => ?_, fun a o vs e => ?_, fun a vs e => ?_, fun a C dx fs za e => ?_⟩, fun a o u e => by rw [upd_ne (ne _ _ e (by intro q; cases q))]; exact e⟩
  · have : a ≠ p := fun q => z (by rw [← q]; exact za)
    rcases r with r | ⟨o, r⟩
    · exact .inl (by rw [upd_ne this]; exact r)
    · exact .inr ⟨o, by rw [upd_ne this]; exact r⟩
  · rw [upd_ne (fun q => z (by rw [← q]; exact za))]; exact e
  · rw [upd_ne (ne _ _ e (by intro q; cases q))]; exact e
  · rw [upd_ne (ne _ _ e (by intro q; cases q))]; exact e
  · rw [upd_ne (fun q => z (by rw [← q]; exact za))]; exact e
theorem LenOk.put {p : Addr} {ys : List V} (l : LenOk H) (hy : ys.length ≤ sizeLine) : LenOk (upd H p (.lst ys)) := by
  refine ⟨fun a vs h => ?_, fun a vs h => ?_⟩
  · by_cases q : a = p
    · subst q
      rcases h with h | ⟨ob, h⟩
      · rw [upd_same] at h; cases h; exact hy
      · rw [upd_same] at h; cases h
    · refine l.1 a vs ?_
      rcases h with h | ⟨ob, h⟩
      · exact .inl (by rw [upd_ne q] at h; exact h)
      · exact .inr ⟨ob, by rw [upd_ne q] at h; exact h⟩
  · by_cases q : a = p
    · subst q
      rw [upd_same] at h; cases h
    · rw [upd_ne q] at h; exact l.2 a vs h
theorem CRel.aside {p : Addr} {xs ys : List V} (c : CRel G W H M) (h : H p = some (.lst xs)) (hp : p ∉ W.phi) (z : ¬ W.Z p) : CRel G W (upd H p (.lst ys)) M := by
  refine ⟨c.len, fun l cl a h1 h2 => ?_, c.nd, c.sep, fun a za => ?_⟩
  · have hm : a ≠ p := fun q => hp (q ▸ List.mem_of_getElem? h2)
    exact (c.cel l cl a h1 h2).mono (Ext0.aside h z) fun o ho => by rw [upd_ne hm]; exact ho
  · obtain ⟨o, e⟩ := c.zs a za
    exact ⟨o, by rw [upd_ne (fun q => z (by rw [← q]; exact za))]; exact e⟩
theorem Ext.aside {p : Addr} {xs ys : List V} (c : CRel G W1 H1 M) (x : Ext W H W1 H1) (hn : H p = none) (zs : ∀ a, W.Z a → ∃ o, H a = some o) (h : H1 p = some (.lst xs)) (z : ¬ W1.Z p) : Ext W H W1 (upd H1 p (.lst ys)) := by
  have ne : ∀ a u, H a = some u → a ≠ p := fun a u e q => by subst q; rw [hn] at e; cases e
  have x0 := x.toExt0.trans (Ext0.aside (ys := ys) h z)
  exact ⟨x0, x.fr, x.zn, fun a o e h1 h2 => by rw [upd_ne (ne _ _ e)]; exact x.keep a o e h1 h2⟩
theorem Rel.aside {p : Addr} {xs ys : List V} (r : Rel G W0 H0 W σ H E M) (hn : H0 p = none) (h : H p = some (.lst xs)) (a : Aside W σ E p) : Rel G W0 H0 W σ (upd H p (.lst ys)) E M := by
  have x := Ext0.aside (ys := ys) h a.z
  refine ⟨r.toCRel.aside h a.ph a.z, ⟨r.ext.toExt0.trans x, r.ext.fr, r.ext.zn, fun b o e h1 h2 => ?_⟩, fun i s hs => ?_, r.sz, r.own⟩
  · rw [upd_ne (fun q => by subst q; rw [hn] at e; cases e)]; exact r.ext.keep b o e h1 h2
  · have q := r.slt i s hs
    cases s with
    | un => exact True.intro
    | sh d => obtain ⟨w, e2, h2⟩ := q; exact ⟨w, e2, h2.mono x⟩
    | ow c =>
      obtain ⟨b, e2, h2, n1, n2, n3⟩ := q
      have : b ≠ p := fun q => a.ow i c hs (q ▸ e2)
      exact ⟨b, e2, h2.mono x fun o ho => by rw [upd_ne this]; exact ho, n1, n2, n3⟩
theorem Aside.ext {p : Addr} (a : Aside W σ E p) (x : Ext W H W1 H1) (h : H p = some (.lst [])) : True := trivial
theorem Aside.mono {p : Addr} {o : HO} (a : Aside W σ E p) (x : Ext W H W1 H1) (h : H p = some o) : Aside W1 σ E p := by
  refine ⟨fun q => ?_, fun q => ?_, a.ow⟩
  · rcases x.fr p q with q | q
    · exact a.ph q
    · rw [h] at q; cases q
  · rcases x.zn p q with q | q
    · exact a.z q
    · rw [h] at q; cases q
theorem Aside.new {p : Addr} (r : Rel G W0 H0 W σ H E M) (h : H p = none) : Aside W σ E p := by
  refine ⟨fun q => ?_, fun q => ?_, fun i c hs q => ?_⟩
  · obtain ⟨o, e⟩ := r.isS q
    rw [h] at e; cases e
  · obtain ⟨o, e⟩ := r.zs p q
    rw [h] at e; cases e
  · obtain ⟨b, e2, h2, _⟩ := r.slt i _ hs
    rw [q] at e2; cases e2
    obtain ⟨o, e⟩ := h2.isS
    rw [h] at e; cases e
end

section
variable {X : Cx} {ct : List (Str × List Str)} {Wx : WX} {e a b c tg iter elt : Expr} {es ifs : List Expr} {f f1 f2 f3 : CE} {it g : CA} {t t1 t2 : CT} {pos p2 : Pos} {rest : List Expr} {x y : Str} {p p' : Pos}
/-- the tests of a comprehension -/
abbrev PTsf (X : Cx) (ct : List (Str × List Str)) (Wx : WX) (ifs : List Expr) (t : CT) : Prop := PTs X ifs (tT (Gx X ct) Wx t)
theorem ptsf_nil : PTsf X ct Wx [] tYes := ⟨fun pins s σ H Q I h => by
  obtain ⟨W0, H0, W, E, M, rel, p⟩ := h
  exact pts_nil.run pins s σ H Q I (p W H true Ext.refl rel rfl (lenOk_of I))⟩
theorem ptsf_one (h : PTf X ct Wx c t) : PTsf X ct Wx [c] t := pts_one h

theorem R_assoc {α β γ : Type} (r : R α) (k : α → Mem → R β) (k2 : β → Mem → R γ) : (r.bind k).bind k2 = r.bind fun d M => (k d M).bind k2 := by cases r <;> rfl

theorem wipe_in {i : Nat} : ∀ {vs : List Nat} {σ : L2.St}, i ∈ vs → i < σ.length → (L2.wipe σ vs)[i]? = some none
  | [], _, h, _ => by cases h
  | v :: vs, σ, h, hl => by
    unfold L2.wipe
    by_cases e : v = i
    · subst e
      exact List.getElem?_set_self (by rw [wipe_length]; exact hl)
    · rw [List.getElem?_set_ne e]
      rcases List.mem_cons.mp h with z | z
      · exact (e z.symm).elim
      · exact wipe_in z hl
theorem wipe_wipe (σ : L2.St) (vs : List Nat) : L2.wipe (L2.wipe σ vs) vs = L2.wipe σ vs := by
  apply List.ext_getElem?
  intro j
  by_cases m : j ∈ vs
  · by_cases hl : j < σ.length
    · rw [wipe_in m hl, wipe_in m (by rw [wipe_length]; exact hl)]
    · rw [List.getElem?_eq_none (by rw [wipe_length, wipe_length]; omega), List.getElem?_eq_none (by rw [wipe_length]; omega)]
  · rw [wipe_out m]
/-- a new object, nobody's yet -/
def RpN (G : Gm) (σ : L2.St) (E : Env) (H : Hp) : Wd → Hp → D → V → Prop := fun W' H' d v => ∃ a c, d = Cell.tree c ∧ v = .ref a ∧ CellOk G W' H' a c ∧ Aside W' σ E a ∧ H a = none
def tN (G : Gm) (Wx : WX) (f : CE) : TE := fun σ H Q => ∃ W0 H0 W E M, Rel G W0 H0 W σ H E M ∧ Post G Wx (RpN G σ E H) W0 H0 W H σ E (f E M) Q
abbrev PNf (X : Cx) (ct : List (Str × List Str)) (Wx : WX) (e : Expr) (f : CE) : Prop := PE X e (tN (Gx X ct) Wx f)
theorem CellOk.rep {G : Gm} {W : Wd} {H : Hp} {a : Addr} {c : Cell} (h : CellOk G W H a c) (z : W.Z a) : Rep G W H c.tree (.ref a) := by
  cases c with
  | lst ds => obtain ⟨vs, q, r⟩ := h; exact .lst z q r
  | dK ds => obtain ⟨vs, q, k, r⟩ := h; exact .dK z (.inl q) k r
  | dT ds => obtain ⟨vs, q, k, r⟩ := h; exact .dT z (.inl q) k r
  | ins c ds => obtain ⟨nm, ns, C, dx, vs, ht, hc, q, k, r⟩ := h; exact .obj z ht hc q k r
theorem Ext0.frz {W : Wd} {H : Hp} {a : Addr} : Ext0 W H (W.frz a) H := ⟨⟨⟨[], by simp⟩, fun _ z => .inl z, fun a u z f r => r, fun a vs z e => e, fun a o vs e => e, fun a xs e => e, fun a C dx fs z e => e⟩, fun a o u e => e⟩
theorem Rel.frzA {G : Gm} {W0 W : Wd} {H0 H : Hp} {σ : L2.St} {E : Env} {M : Mem} {a : Addr} (r : Rel G W0 H0 W σ H E M) (as : Aside W σ E a) (h0 : H0 a = none) (hob : ∃ o, H a = some o) : Rel G W0 H0 (W.frz a) σ H E M := by
  refine ⟨⟨r.len, fun l cl b h1 h2 => (r.cel l cl b h1 h2).mono Ext0.frz fun o h => h, r.nd, fun b h z => ?_, fun b z => ?_⟩, ⟨r.ext.toExt0.trans Ext0.frz, r.ext.fr, fun b z => ?_, r.ext.keep⟩, fun i s hs => ?_, r.sz, r.own⟩
  · rcases z with z | z
    · exact r.sep b h z
    · subst z; exact as.ph h
  · rcases z with z | z
    · exact r.zs b z
    · subst z; exact hob
  · rcases z with z | z
    · exact r.ext.zn b z
    · subst z; exact .inr h0
  · have q := r.slt i s hs
    cases s with
    | un => exact True.intro
    | sh d => obtain ⟨w, e2, h2⟩ := q; exact ⟨w, e2, h2.mono Ext0.frz⟩
    | ow c =>
      obtain ⟨b, e2, h2, n1, n2, n3⟩ := q
      refine ⟨b, e2, h2.mono Ext0.frz fun o ho => ho, n1, fun z => ?_, n3⟩
      rcases z with z | z
      · exact n2 z
      · subst z; exact as.ow i c hs e2
/-- a new object, frozen -/
theorem pf_n {f : CE} (h : PNf X ct Wx e f) : PF X ct Wx e f := by
  refine PE.fin h ?_
  rintro σ H Q l ⟨W0, H0, W, E, M, rel, p⟩
  refine ⟨W0, H0, W, E, M, rel, ?_⟩
  cases q : f E M with
  | bad => rw [q] at p; exact p
  | exc c ds M' => rw [q] at p; exact p
  | ok d M' =>
    rw [q] at p
    rintro W' H' v x r ⟨a, c, rfl, rfl, hc, as, ha⟩ l' _
    have z0 : H0 a = none := rel.toCRel.was rel.ext ha
    exact p (W'.frz a) H' _ ⟨x.toExt0.trans Ext0.frz, x.fr, fun b z => by
      rcases z with z | z
      · exact x.zn b z
      · subst z; exact .inr ha, x.keep⟩ (r.frzA as z0 hc.isS) ((hc.mono Ext0.frz fun o h => h).rep (.inr rfl)) l'
/-- the loop of a comprehension -/
theorem comp_run {W0 W1 : Wd} {H0 H1 : Hp} {σ : L2.St} {E : Env} {M1 : Mem} {ds : List D} {Jt : It} {gt : TG} {gg : CG} {is vs : List Nat} {Q : VK} {Hs : Hp}
    (hs0 : ∀ a, H1 a = none → Hs a = none) (rel1 : Rel (Gx X ct) W0 H0 W1 σ H1 E M1) (l1 : LenOk H1) (it : IterOk (Gx X ct) W1 H1 ds Jt) (hz : ds.length ≤ sizeLine) (hg : ∀ W0 H0 W σ H E M d v E' (Q : L2.St → Hp → Prop), Rel (Gx X ct) W0 H0 W σ H E M → Rep (Gx X ct) W H d v → gg d E = some E' →
      (∀ σ', Rel (Gx X ct) W0 H0 W σ' H E' M → (∀ vs, (∀ i ∈ is, i ∈ vs) → L2.wipe σ' vs = L2.wipe σ vs) → Q σ' H) → gt v σ H Q) (his : ∀ i ∈ is, i ∈ vs)
    (p : Post (Gx X ct) Wx (RpN (Gx X ct) σ E Hs) W0 H0 W1 H1 σ E ((compL vs gg t f ds E M1).bind fun ds M => .ok (.lst ds) M) Q) :
    ∀ D, H1 D = none → ∃ W : Nat → Nat → Hp → Prop, (∃ m, W 0 m (upd H1 D (.lst []))) ∧ ∀ i m H, W i m H →
      (Jt.stop i H ∧ Q (.ref D) H) ∨ (Jt.go i H ∧ ∃ Nx : Hp → Prop, (∀ H', Nx H' → ∃ m', m' < m ∧ W (i + 1) m' H') ∧ ∀ x H', Jt.yld i H x H' → gt x (L2.wipe σ vs) H' fun σ2 H2 => L2.wipe σ2 vs = L2.wipe σ vs ∧ tT (Gx X ct) Wx t σ2 H2 fun b H3 =>
        if b = true then tF (Gx X ct) Wx f σ2 H3 fun y H4 => ∃ acc, H4 D = some (.lst acc) ∧ acc.length < sizeLine ∧ Nx (upd H4 D (.lst (acc ++ [y]))) else Nx H3) := by
  intro D hD
  let Pv : Nat → Hp → Prop := fun i H' => ∃ W' M' acc es, Rel (Gx X ct) W0 H0 W' σ H' E M' ∧ Ext W1 H1 W' H' ∧ H' D = some (.lst acc) ∧ Aside W' σ E D ∧ Reps (Gx X ct) W' H' es acc ∧ acc.length ≤ i ∧ LenOk H' ∧
    compL vs gg t f ds E M1 = (compL vs gg t f (ds.drop i) E M').bind fun xs M => .ok (es ++ xs) M
  have hD0 : H0 D = none := rel1.toCRel.was rel1.ext hD
  refine ⟨fun i m H => m = ds.length - i ∧ i ≤ ds.length ∧ Pv i H, ⟨ds.length, by simp, Nat.zero_le _, ?_⟩, ?_⟩
  · have x := Ext.new (o := .lst []) rel1.toCRel hD
    refine ⟨W1, M1, [], [], rel1.after x (rel1.toCRel.new hD), x, upd_same, (Aside.new rel1 hD), .nil, Nat.le_refl _, (l1.new hD (fun _ q => by cases q; exact Nat.zero_le _) (fun _ q => nomatch q) (fun _ _ q => nomatch q)), ?_⟩
    rw [List.drop_zero]
    cases compL vs gg t f ds E M1 <;> rfl
  · rintro i m H ⟨rfl, hi, W', M', acc, es, rel, x, hDl, asd, reps, hlen, l, eq⟩
    obtain ⟨go, stop⟩ := it W' H M' x.toExt0 rel.toCRel l i hi
    by_cases hlt : i < ds.length
    · refine .inr ⟨(go ds[i] (by simp [hlt])).1, Pv (i + 1), fun H' p' => ⟨ds.length - (i + 1), by omega, rfl, hlt, p'⟩, fun xv H' hy => ?_⟩
      obtain ⟨W2, x2, c2, rep2, l2⟩ := (go ds[i] (by simp [hlt])).2 xv H' hy
      have rel2 := rel.after x2 c2
      have hdrop : ds.drop i = ds[i] :: ds.drop (i + 1) := by rw [← List.getElem_cons_drop hlt]
      rw [hdrop, compL] at eq
      cases hgd : gg ds[i] (J.wipe E vs) with
      | none =>
        rw [hgd] at eq
        rw [eq] at p
        exact False.elim p
      | some E1 =>
        rw [hgd] at eq
        dsimp only at eq
        refine hg W0 H0 W2 (L2.wipe σ vs) H' (J.wipe E vs) M' _ _ E1 _ (rel2.wipe vs) rep2 hgd fun σ2 rel3 hw => ?_
        have hw2 : L2.wipe σ2 vs = L2.wipe σ vs := by
          rw [hw vs his]
          exact wipe_wipe σ vs
        refine ⟨hw2, W0, H0, W2, E1, M', rel3, ?_⟩
        -- the tests
        cases ht : t E1 M' with
        | bad => rw [ht] at eq; rw [eq] at p; exact False.elim p
        | exc c cs m => rw [ht] at eq; rw [eq] at p; exact False.elim p
        | ok b M2 =>
          rw [ht] at eq
          try dsimp only [R.nox, R.bind] at eq
          intro W3 H3 b' x3 rel4 eb l3
          cases eb
          have rel4' : Rel (Gx X ct) W0 H0 W3 σ H3 E M2 := rel2.after x3 rel4.toCRel
          have hD2 : H' D = some (.lst acc) := x2.keep D _ hDl asd.ph asd.z
          have asd2 := asd.mono x2 hDl
          have hD3 : H3 D = some (.lst acc) := x3.keep D _ hD2 asd2.ph asd2.z
          have asd3 := asd2.mono x3 hD2
          have x13 : Ext W1 H1 W3 H3 := Ext.trans rel2.toCRel (Ext.trans rel.toCRel x x2) x3
          have reps3 := (reps.mono x2.toExt0).mono x3.toExt0
          cases b with
          | false =>
            refine iteF ⟨W3, M2, acc, es, rel4', x13, hD3, asd3, reps3, Nat.le_succ_of_le hlen, l3, ?_⟩
            rw [eq]
            rfl
          | true =>
            refine iteT ⟨W0, H0, W3, E1, M2, rel4, ?_⟩
            try dsimp only at eq
            rw [if_pos rfl] at eq
            cases hf : f E1 M2 with
            | bad => rw [hf] at eq; rw [eq] at p; exact False.elim p
            | exc c cs m => rw [hf] at eq; rw [eq] at p; exact False.elim p
            | ok d3 M3 =>
              rw [hf] at eq
              try dsimp only [R.nox, R.bind] at eq
              intro W4 H4 y x4 rel5 rep4 l4
              have rel5' : Rel (Gx X ct) W0 H0 W4 σ H4 E M3 := rel4'.after x4 rel5.toCRel
              have hD4 : H4 D = some (.lst acc) := x4.keep D _ hD3 asd3.ph asd3.z
              have asd4 := asd3.mono x4 hD3
              have x14 : Ext W1 H1 W4 H4 := Ext.trans rel4'.toCRel x13 x4
              have hlen2 : acc.length < sizeLine := by omega
              have x0 := Ext0.aside (W := W4) (ys := acc ++ [y]) hD4 asd4.z
              refine ⟨acc, hD4, hlen2, W4, M3, acc ++ [y], es ++ [d3], rel5'.aside hD0 hD4 asd4, Ext.aside rel5'.toCRel x14 hD rel1.zs hD4 asd4.z, upd_same, asd4, ((reps3.mono x4.toExt0).append (.cons rep4 .nil)).mono x0, by rw [List.length_append]; exact Nat.succ_le_succ hlen, l4.put (by rw [List.length_append]; exact hlen2), ?_⟩
              rw [eq]
              cases compL vs gg t f (List.drop (i + 1) ds) E M3 <;> simp
    · have e : i = ds.length := by omega
      subst e
      rw [List.drop_length] at eq
      refine .inl ⟨stop rfl, ?_⟩
      rw [eq] at p
      dsimp only [compL, R.bind] at p
      rw [List.append_nil] at p
      exact p _ _ _ x rel ⟨D, .lst es, rfl, rfl, ⟨acc, hDl, reps⟩, asd, hs0 D hD⟩ l

theorem PE.fin2 {X : Cx} {e : Expr} {t t' : TE} (h : PE X e t) (hw : ∀ (s : Shared) σ H Q, LenOk H → t' σ H Q → t σ H (fun v H' => LenOk H' → Q v H')) : PE X e t' :=
  ⟨fun pins s σ H Q I q => thn (h.run pins s σ H _ I (hw s σ H Q (lenOk_of I) q)) fun _ _ ⟨v, H', I', r, q'⟩ => ⟨v, H', I', r, q' (lenOk_of I')⟩⟩
theorem tLc_of {is vs : List Nat} {gg : CG} {gt : TG} {σ : L2.St} {H : Hp} {Q : VK} (hg : ∀ W0 H0 W σ H E M d v E' (Q : L2.St → Hp → Prop), Rel (Gx X ct) W0 H0 W σ H E M → Rep (Gx X ct) W H d v → gg d E = some E' →
      (∀ σ', Rel (Gx X ct) W0 H0 W σ' H E' M → (∀ vs, (∀ i ∈ is, i ∈ vs) → L2.wipe σ' vs = L2.wipe σ vs) → Q σ' H) → gt v σ H Q) (his : ∀ i ∈ is, i ∈ vs) (p : tN (Gx X ct) Wx (cComp vs it gg t f) σ H Q) :
    tLc (tI (Gx X ct) Wx it) gt (tT (Gx X ct) Wx t) (tF (Gx X ct) Wx f) vs σ H Q := by
  obtain ⟨W0, H0, W, E, M, rel, p⟩ := p
  have p : Post (Gx X ct) Wx (RpN (Gx X ct) σ E H) W0 H0 W H σ E ((it E M).bind fun ds M => (compL vs gg t f ds E M).bind fun ds M => .ok (.lst ds) M) Q := by
    dsimp only [cComp, aComp] at p
    rw [R_assoc] at p
    exact p
  refine ⟨W0, H0, W, E, M, rel, Post.bind p fun ds M1 W1 H1 J1 _ x1 rel1 p1 l1 p => ?_⟩
  exact fun D hD => comp_run (fun a h => rel1.toCRel.was x1 h) rel1 l1 p1.1 p1.2 hg his p D hD
theorem n_comp {scope : Scope} {is : List Nat} {own : List (Str × Nat)} {gg : CG} {gt : TG} (hc : X.calm = true) (hN : X.N.Nodup) (hi : PIf X ct Wx tg iter it) (ok : BlkOk X.N X.env.scope scope own)
    (hg : ∀ (s : Shared) (H : Hp) (C : Addr) (cl : List (Str × Addr)) (fp : List Addr), PGf (X.blk s H scope (compEnvC scope cl C X.env) fp) ct tg is gt gg)
    (ht : ∀ (s : Shared) (H : Hp) (C : Addr) (cl : List (Str × Addr)) (fp : List Addr), PTsf (X.blk s H scope (compEnvC scope cl C X.env) fp) ct Wx ifs t)
    (he : ∀ (s : Shared) (H : Hp) (C : Addr) (cl : List (Str × Addr)) (fp : List Addr), PF (X.blk s H scope (compEnvC scope cl C X.env) fp) ct Wx elt f) (his : ∀ i ∈ is, i ∈ own.map (·.2) := by decide) (hs : ∀ x, foldedSetIterable iter X.env x = pure x := by intro _; rfl) :
    PNf X ct Wx (.ListComp elt [⟨tg, iter, ifs, 0⟩] scope pos) (cComp (own.map (·.2)) it gg t f) := by
  have h := pe_lc (pos := pos) (tt := tT (Gx X ct) Wx t) (te := tF (Gx X ct) Wx f) hc hN hi ok (fun s H C cl fp => (hg s H C cl fp).1) ht he hs
  exact ⟨fun pins s σ H Q I p => h.run pins s σ H Q I (tLc_of (X := X) (hg s H 0 [] []).2 his p)⟩
end
end J
namespace J
open PySem PySem.Spec L2

def Dl (D : Ends) : Ends := { nx := fun σ H => LenOk H → D.nx σ H, rt := fun v H => LenOk H → D.rt v H, bk := fun σ H => LenOk H → D.bk σ H, ct := fun σ H => LenOk H → D.ct σ H }
theorem SP.dl {X : Cx} {pins : List (Addr × Obj)} {D : Ends} {f : Flow} {s' : Shared} (h : SP X pins (Dl D) f s') : SP X pins D f s' := by
  cases f with
  | next => obtain ⟨σ', H', I, q⟩ := h; exact ⟨σ', H', I, q (lenOk_of I)⟩
  | brk => obtain ⟨σ', H', I, q⟩ := h; exact ⟨σ', H', I, q (lenOk_of I)⟩
  | cont => obtain ⟨σ', H', I, q⟩ := h; exact ⟨σ', H', I, q (lenOk_of I)⟩
  | ret u => obtain ⟨v, σ', H', I, r, q⟩ := h; exact ⟨v, σ', H', I, r, q (lenOk_of I)⟩
theorem PS_fin {X : Cx} {st : Stmt} {t t' : TS} (h : PS X st t) (hw : ∀ D σ H, LenOk H → t' D σ H → t (Dl D) σ H) : PS X st t' :=
  ⟨fun pins s σ H D I q => thn (h.run pins s σ H (Dl D) I (hw D σ H (lenOk_of I) q)) fun _ _ q => SP.dl q⟩
theorem PSs_fin {X : Cx} {st : List Stmt} {t t' : TS} (h : PSs X st t) (hw : ∀ D σ H, LenOk H → t' D σ H → t (Dl D) σ H) : PSs X st t' :=
  ⟨fun pins s σ H D I q => thn (h.run pins s σ H (Dl D) I (hw D σ H (lenOk_of I) q)) fun _ _ q => SP.dl q⟩

section
variable (G : Gm) (Wx : WX)
def EndF (D : Ends) (W' : Wd) (σ' : L2.St) (H' : Hp) : Fl → Prop
  | .nx => D.nx σ' H'
  | .bk => D.bk σ' H'
  | .ct => D.ct σ' H'
  | .rt d => ∀ v, Rep G W' H' d v → D.rt v H'
  | .ex c ds => ∀ C o, ExcOk G W' H' c ds C o → Wx (.ref C) o σ' H'
def PostS (W0 : Wd) (H0 : Hp) (W : Wd) (H : Hp) (r : R (Fl × Env)) (D : Ends) : Prop :=
  match r with
  | .ok a M' => ∀ W' σ' H', Ext0 W H W' H' → Rel G W0 H0 W' σ' H' a.2 M' → LenOk H' → EndF G Wx D W' σ' H' a.1
  | _ => False
def tS (f : CS) : TS := fun D σ H => ∃ W0 H0 W E M, Rel G W0 H0 W σ H E M ∧ PostS G Wx W0 H0 W H (f E M) D
end

section
variable {G : Gm} {Wx : WX} {W0 W W1 W' : Wd} {H0 H H1 H' : Hp} {σ σ1 : L2.St} {E E1 : Env} {M M1 : Mem} {d : D} {v : V} {ds : List D} {D : Ends}
theorem PostS.step {r : R (Fl × Env)} (x : Ext0 W H W1 H1) (h : PostS G Wx W0 H0 W H r D) : PostS G Wx W0 H0 W1 H1 r D := by
  cases r with
  | ok a M' => exact fun W' σ' H' x' r' l' => h W' σ' H' (x.trans x') r' l'
  | exc c ds M' => exact h
  | bad => exact h
theorem EndF.dl {fl : Fl} (l : LenOk H') (h : EndF G Wx D W' σ H' fl) : EndF G Wx (Dl D) W' σ H' fl := by
  cases fl with
  | nx => exact fun _ => h
  | bk => exact fun _ => h
  | ct => exact fun _ => h
  | rt d => exact fun v r _ => h v r
  | ex c ds => exact h
theorem PostS.dl {r : R (Fl × Env)} (h : PostS G Wx W0 H0 W H r D) : PostS G Wx W0 H0 W H r (Dl D) := by
  cases r with
  | ok a M' => exact fun W' σ' H' x r l => (h W' σ' H' x r l).dl l
  | exc c ds M' => exact h
  | bad => exact h
/-- an expression first -/
theorem PostS.bindE {r : R J.D} {k : J.D → Mem → R (Fl × Env)} {Q' : VK} (h : PostS G Wx W0 H0 W H (r.st E k) D)
    (hk : ∀ d M1 W1 H1 v, r = .ok d M1 → Ext W H W1 H1 → Rel G W0 H0 W1 σ H1 E M1 → Rep G W1 H1 d v → LenOk H1 → PostS G Wx W0 H0 W1 H1 (k d M1) D → Q' v H1) : Post G Wx (fun W' H' => Rep G W' H') W0 H0 W H σ E r Q' := by
  cases r with
  | ok d M1 => exact fun W' H' v x r p l => hk d M1 W' H' v rfl x r p l (h.step x.toExt0)
  | exc c ds M1 => exact fun W' H' C o x r p l => h W' σ H' x.toExt0 r l C o p
  | bad => exact h
/-- a test first -/
theorem PostS.bindT {r : R Bool} {k : Bool → Mem → R (Fl × Env)} {Q' : Bool → Hp → Prop} (h : PostS G Wx W0 H0 W H (r.stB E k) D)
    (hk : ∀ d M1 W1 H1, r = .ok d M1 → Ext W H W1 H1 → Rel G W0 H0 W1 σ H1 E M1 → LenOk H1 → PostS G Wx W0 H0 W1 H1 (k d M1) D → Q' d H1) : Post G Wx RpB W0 H0 W H σ E r Q' := by
  cases r with
  | ok d M1 => exact fun W' H' v x r p l => by cases p; exact hk d M1 W' H' rfl x r l (h.step x.toExt0)
  | exc c ds M1 => exact fun W' H' C o x r p l => h W' σ H' x.toExt0 r l C o p
  | bad => exact h
/-- a list first -/
theorem PostS.bindA {β : Type} {Rp : Wd → Hp → List J.D → β → Prop} {r : R (List J.D)} {k : List J.D → Mem → R (Fl × Env)} {Q' : β → Hp → Prop} (h : PostS G Wx W0 H0 W H (r.stA E k) D)
    (hk : ∀ d M1 W1 H1 v, r = .ok d M1 → Ext W H W1 H1 → Rel G W0 H0 W1 σ H1 E M1 → Rp W1 H1 d v → LenOk H1 → PostS G Wx W0 H0 W1 H1 (k d M1) D → Q' v H1) : Post G Wx Rp W0 H0 W H σ E r Q' := by
  cases r with
  | ok d M1 => exact fun W' H' v x r p l => hk d M1 W' H' v rfl x r p l (h.step x.toExt0)
  | exc c ds M1 => exact fun W' H' C o x r p l => h W' σ H' x.toExt0 r l C o p
  | bad => exact h
/-- a statement first: the ends of a block -/
theorem PostS.seq {r : R (Fl × Env)} {k : CS} (h : PostS G Wx W0 H0 W H (match r with | .ok (.nx, E) M => k E M | r => r) D) :
    PostS G Wx W0 H0 W H r { D with nx := tS G Wx k D } := by
  cases r with
  | ok a M' =>
    obtain ⟨fl, E'⟩ := a
    cases fl with
    | nx => exact fun W' σ' H' x r l => ⟨W0, H0, W', E', M', r, h.step x⟩
    | bk => exact fun W' σ' H' x r l => h W' σ' H' x r l
    | ct => exact fun W' σ' H' x r l => h W' σ' H' x r l
    | rt d => exact fun W' σ' H' x r l => h W' σ' H' x r l
    | ex c ds => exact fun W' σ' H' x r l => h W' σ' H' x r l
  | exc c ds M' => exact h
  | bad => exact h
end

section
variable {X : Cx} {ct : List (Str × List Str)} {Wx : WX} {e a b c tg iter : Expr} {es : List Expr} {f f1 f2 : CE} {it g : CA} {t t1 t2 : CT} {pos p p' : Pos} {x y : Str} {st : Stmt} {sts ss1 ss2 : List Stmt} {s s1 s2 : CS}
abbrev PSf (X : Cx) (ct : List (Str × List Str)) (Wx : WX) (st : Stmt) (s : CS) : Prop := PS X st (tS (Gx X ct) Wx s)
abbrev PSsf (X : Cx) (ct : List (Str × List Str)) (Wx : WX) (sts : List Stmt) (s : CS) : Prop := PSs X sts (tS (Gx X ct) Wx s)
theorem ss_nil : PSsf X ct Wx [] sNil := by
  refine PSs_fin pss_nil ?_
  rintro D σ H l ⟨W0, H0, W, E, M, rel, p⟩
  exact fun l' => p W σ H Ext0.refl rel l
theorem ss_cons (h1 : PSf X ct Wx st s1) (h2 : PSsf X ct Wx sts s2) : PSsf X ct Wx (st :: sts) (sSeq s1 s2) := by
  refine PSs_fin (pss_cons h1 h2) ?_
  rintro D σ H l ⟨W0, H0, W, E, M, rel, p⟩
  exact ⟨W0, H0, W, E, M, rel, PostS.seq p.dl⟩
theorem ss_one (h1 : PSf X ct Wx st s1) : PSsf X ct Wx [st] s1 := pss_one h1
theorem s_pass : PSf X ct Wx (.Pass pos) sNil := by
  refine PS_fin ps_pass ?_
  rintro D σ H l ⟨W0, H0, W, E, M, rel, p⟩
  exact fun l' => p W σ H Ext0.refl rel l
theorem s_doc {j} : PSf X ct Wx (.Expr (.Constant (.str x) j p) p') sNil := by
  refine PS_fin ps_doc ?_
  rintro D σ H l ⟨W0, H0, W, E, M, rel, p⟩
  exact fun l' => p W σ H Ext0.refl rel l
theorem s_break : PSf X ct Wx (.Break pos) sBreak := by
  refine PS_fin ps_break ?_
  rintro D σ H l ⟨W0, H0, W, E, M, rel, p⟩
  exact fun l' => p W σ H Ext0.refl rel l
theorem s_cont : PSf X ct Wx (.Continue pos) sCont := by
  refine PS_fin ps_continue ?_
  rintro D σ H l ⟨W0, H0, W, E, M, rel, p⟩
  exact fun l' => p W σ H Ext0.refl rel l
theorem s_never : PSf X ct Wx st sNever := ⟨fun _ _ _ _ _ _ h => by obtain ⟨W0, H0, W, E, M, rel, p⟩ := h; exact p.elim⟩
theorem ss_never : PSsf X ct Wx sts sNever := ⟨fun _ _ _ _ _ _ h => by obtain ⟨W0, H0, W, E, M, rel, p⟩ := h; exact p.elim⟩
theorem s_expr (he : PF X ct Wx e f) (hs : swapsWith e none pos.line X.env = pure false := by rfl) : PSf X ct Wx (.Expr e pos) (sExpr f) := by
  refine PS_fin (ps_expr he hs) ?_
  rintro D σ H l ⟨W0, H0, W, E, M, rel, p⟩
  refine ⟨W0, H0, W, E, M, rel, p.bindE fun d M1 W1 H1 v _ x1 rel1 r1 l1 p => ?_⟩
  exact fun l' => p W1 σ H1 Ext0.refl rel1 l1
theorem s_ret (he : PF X ct Wx e f) : PSf X ct Wx (.Return (some e) pos) (sRet f) := by
  refine PS_fin (ps_ret he) ?_
  rintro D σ H l ⟨W0, H0, W, E, M, rel, p⟩
  refine ⟨W0, H0, W, E, M, rel, p.bindE fun d M1 W1 H1 v _ x1 rel1 r1 l1 p => ?_⟩
  exact fun l' => p W1 σ H1 Ext0.refl rel1 l1 v r1
theorem s_retN : PSf X ct Wx (.Return none pos) sRetN := by
  refine PS_fin ps_retN ?_
  rintro D σ H l ⟨W0, H0, W, E, M, rel, p⟩
  exact fun l' => p W σ H Ext0.refl rel l .non .non
theorem s_if (hc : PTf X ct Wx c t) (h1 : PSsf X ct Wx ss1 s1) (h2 : PSsf X ct Wx ss2 s2) : PSf X ct Wx (.If c ss1 ss2 pos) (sIf t s1 s2) := by
  refine PS_fin (ps_if hc h1 h2) ?_
  rintro D σ H l ⟨W0, H0, W, E, M, rel, p⟩
  refine ⟨W0, H0, W, E, M, rel, p.bindT fun d M1 W1 H1 _ x1 rel1 l1 p => ?_⟩
  cases d with
  | true => exact iteT ⟨W0, H0, W1, E, M1, rel1, p.dl⟩
  | false => exact iteF ⟨W0, H0, W1, E, M1, rel1, p.dl⟩
/-- a value into a target -/
theorem asg_end {W0 W1 : Wd} {H0 H1 : Hp} {σ : L2.St} {E : Env} {M1 : Mem} {D : Ends} {d : J.D} {v : V} {gt : TG} {gg : CG} {is : List Nat}
    (hg : ∀ W0 H0 W σ H E M d v E' (Q : L2.St → Hp → Prop), Rel (Gx X ct) W0 H0 W σ H E M → Rep (Gx X ct) W H d v → gg d E = some E' → (∀ σ', Rel (Gx X ct) W0 H0 W σ' H E' M → (∀ vs, (∀ i ∈ is, i ∈ vs) → L2.wipe σ' vs = L2.wipe σ vs) → Q σ' H) → gt v σ H Q)
    (rel1 : Rel (Gx X ct) W0 H0 W1 σ H1 E M1) (r1 : Rep (Gx X ct) W1 H1 d v) (l1 : LenOk H1) (p : PostS (Gx X ct) Wx W0 H0 W1 H1 (match gg d E with | some E => R.ok (Fl.nx, E) M1 | none => .bad) D) : gt v σ H1 (Dl D).nx := by
  cases q : gg d E with
  | none => rw [q] at p; exact p.elim
  | some E1 =>
    rw [q] at p
    exact hg W0 H0 W1 σ H1 E M1 d v E1 _ rel1 r1 q fun σ' rel2 _ _ => p W1 σ' H1 Ext0.refl rel2 l1
theorem s_set (i : Nat) (hN : X.N.Nodup) (he : PF X ct Wx e f) (hi : X.N[i]? = some x := by rfl) (hx : Loc X.env.scope x := by first | exact .inl rfl | exact .inr rfl) (hs : swapsWith e (some (.Name x p')) pos.line X.env = pure false := by rfl) (hf : X.fn x = true ∨ X.env.scope.names.lookup x = some .local := by first | exact .inl rfl | exact .inr rfl | assumption) : PSf X ct Wx (.Assign [.Name x p'] e pos) (sAsg (gN i) f) := by
  refine PS_fin (ps_set hN hi hx he hs hf) ?_
  rintro D σ H l ⟨W0, H0, W, E, M, rel, p⟩
  refine ⟨W0, H0, W, E, M, rel, p.bindE fun d M1 W1 H1 v _ x1 rel1 r1 l1 p => ?_⟩
  exact asg_end (pg_n (X := X) (ct := ct) (pos := p') i hN hi hx hf).2 rel1 r1 l1 p
theorem s_asg {is : List Nat} {gt : TG} {gg : CG} (he : PF X ct Wx e f) (hg : PGf X ct tg is gt gg) (hs : swapsWithSole [tg] e pos.line X.env = pure false := by rfl) (hw : swappedStores [tg] e X.env = pure none := by rfl)
    (h1 : (assignEach [tg] X.env).map (·.2) = [assign tg X.env] := by rfl) : PSf X ct Wx (.Assign [tg] e pos) (sAsg gg f) := by
  refine PS_fin (ps_asg he hg.1 hs hw h1) ?_
  rintro D σ H l ⟨W0, H0, W, E, M, rel, p⟩
  refine ⟨W0, H0, W, E, M, rel, p.bindE fun d M1 W1 H1 v _ x1 rel1 r1 l1 p => ?_⟩
  exact asg_end hg.2 rel1 r1 l1 p

theorem Ext0.step {W W1 : Wd} {H H1 : Hp} (a : Ext W H W1 H1) : Ext0 W H W1 H1 := a.toExt0
/-- a for loop -/
theorem for_run {W0 W1 : Wd} {H0 H1 : Hp} {σ : L2.St} {E : Env} {M1 : Mem} {D : Ends} {ds : List J.D} {Jt : It} {gt : TG} {gg : CG} {is : List Nat}
    (hg : ∀ W0 H0 W σ H E M d v E' (Q : L2.St → Hp → Prop), Rel (Gx X ct) W0 H0 W σ H E M → Rep (Gx X ct) W H d v → gg d E = some E' → (∀ σ', Rel (Gx X ct) W0 H0 W σ' H E' M → (∀ vs, (∀ i ∈ is, i ∈ vs) → L2.wipe σ' vs = L2.wipe σ vs) → Q σ' H) → gt v σ H Q)
    (rel1 : Rel (Gx X ct) W0 H0 W1 σ H1 E M1) (l1 : LenOk H1) (it : IterOk (Gx X ct) W1 H1 ds Jt) (p : PostS (Gx X ct) Wx W0 H0 W1 H1 (forL gg s ds E M1) D) :
    ∃ W : Nat → Nat → L2.St → Hp → Prop, (∃ m, W 0 m σ H1) ∧ ∀ i m σ H, W i m σ H →
      (Jt.stop i H ∧ (Dl D).nx σ H) ∨ (Jt.go i H ∧ ∃ N : L2.St → Hp → Prop, (∀ σ' H', N σ' H' → ∃ m', m' < m ∧ W (i + 1) m' σ' H') ∧ ∀ x H', Jt.yld i H x H' → gt x σ H' fun σ2 H2 => tS (Gx X ct) Wx s { Dl D with nx := N, ct := N, bk := (Dl D).nx } σ2 H2) := by
  let Pv : Nat → L2.St → Hp → Prop := fun i σ' H' => ∃ W' E' M', Rel (Gx X ct) W0 H0 W' σ' H' E' M' ∧ Ext0 W1 H1 W' H' ∧ LenOk H' ∧ PostS (Gx X ct) Wx W0 H0 W' H' (forL gg s (ds.drop i) E' M') D
  refine ⟨fun i m σ H => m = ds.length - i ∧ i ≤ ds.length ∧ Pv i σ H, ⟨ds.length, by simp, Nat.zero_le _, W1, E, M1, rel1, Ext0.refl, l1, p⟩, ?_⟩
  rintro i m σ H ⟨rfl, hi, W', E', M', rel, x, l, p⟩
  obtain ⟨go, stop⟩ := it W' H M' x rel.toCRel l i hi
  by_cases hlt : i < ds.length
  · refine .inr ⟨(go ds[i] (by simp [hlt])).1, Pv (i + 1), fun σ' H' p' => ⟨ds.length - (i + 1), by omega, rfl, hlt, p'⟩, fun xv H' hy => ?_⟩
    obtain ⟨W2, x2, c2, rep2, l2⟩ := (go ds[i] (by simp [hlt])).2 xv H' hy
    have rel2 := rel.after x2 c2
    have hdrop : ds.drop i = ds[i] :: ds.drop (i + 1) := by rw [← List.getElem_cons_drop hlt]
    rw [hdrop, forL] at p
    cases hgd : gg ds[i] E' with
    | none => rw [hgd] at p; exact p.elim
    | some E1 =>
      rw [hgd] at p
      dsimp only at p
      refine hg W0 H0 W2 σ H' E' M' _ _ E1 _ rel2 rep2 hgd fun σ2 rel3 _ => ⟨W0, H0, W2, E1, M', rel3, ?_⟩
      have x12 := x.trans x2.toExt0
      have p := p.step x2.toExt0
      cases hs : s E1 M' with
      | bad => rw [hs] at p; exact p.elim
      | exc c ds M => rw [hs] at p; exact p.elim
      | ok a M3 =>
        rw [hs] at p
        obtain ⟨fl, E3⟩ := a
        cases fl with
        | nx => exact fun W' σ' H' x' r' l' => ⟨W', E3, M3, r', x12.trans x', l', p.step x'⟩
        | ct => exact fun W' σ' H' x' r' l' => ⟨W', E3, M3, r', x12.trans x', l', p.step x'⟩
        | bk => exact fun W' σ' H' x' r' l' _ => p W' σ' H' x' r' l'
        | rt d => exact fun W' σ' H' x' r' l' v hv _ => p W' σ' H' x' r' l' v hv
        | ex c ds => exact fun W' σ' H' x' r' l' => p W' σ' H' x' r' l'
  · have e : i = ds.length := by omega
    subst e
    rw [List.drop_length] at p
    exact .inl ⟨stop rfl, fun _ => p W' σ H Ext0.refl rel l⟩
theorem s_for {is : List Nat} {gt : TG} {gg : CG} (hp : PassesOwn (model X.prog X.w) X.A X.env X.xe) (hc : X.calm = true) (hi : PIf X ct Wx tg iter it) (hg : PGf X ct tg is gt gg) (hb : PSsf X ct Wx sts s) (hs : ∀ x, foldedSetIterable iter X.env x = pure x := by intro _; rfl) : PSf X ct Wx (.For tg iter sts [] pos) (sFor it gg s) := by
  refine PS_fin (ps_for hp hc hi hg.1 hb hs) ?_
  rintro D σ H l ⟨W0, H0, W, E, M, rel, p⟩
  refine ⟨W0, H0, W, E, M, rel, PostS.bindA p fun d M1 W1 H1 v _ x1 rel1 r1 l1 p => ?_⟩
  exact for_run hg.2 rel1 l1 r1.1 p
theorem s_while (hp : PassesOwn (model X.prog X.w) X.A X.env X.xe) (hc : PTf X ct Wx c t) (hb : PSsf X ct Wx sts s) (n : Nat) : PSf X ct Wx (.While c sts [] pos) (whileN t s n) := by
  refine PS_fin (ps_while hp hc hb) ?_
  rintro D σ H l ⟨W0, H0, W, E, M, rel, p⟩
  refine ⟨fun m σ H => LenOk H ∧ ∃ W E M, Rel (Gx X ct) W0 H0 W σ H E M ∧ PostS (Gx X ct) Wx W0 H0 W H (whileN t s m E M) D, ⟨n, l, W, E, M, rel, p⟩, ?_⟩
  rintro m σ H ⟨l, W, E, M, rel, p⟩
  cases m with
  | zero => exact p.elim
  | succ m =>
    rw [whileN] at p
    refine ⟨W0, H0, W, E, M, rel, p.bindT fun d M1 W1 H1 _ x1 rel1 l1 p => ?_⟩
    cases d with
    | false => exact iteF fun _ => p W1 σ H1 Ext0.refl rel1 l1
    | true =>
      refine iteT ⟨fun σ' H' => LenOk H' ∧ ∃ W E M, Rel (Gx X ct) W0 H0 W σ' H' E M ∧ PostS (Gx X ct) Wx W0 H0 W H' (whileN t s m E M) D, fun σ' H' h => ⟨m, Nat.lt_succ_self m, h⟩, W0, H0, W1, E, M1, rel1, ?_⟩
      rw [if_pos rfl] at p
      cases hs : s E M1 with
      | bad => rw [hs] at p; exact p.elim
      | exc c ds M => rw [hs] at p; exact p.elim
      | ok a M3 =>
        rw [hs] at p
        obtain ⟨fl, E3⟩ := a
        cases fl with
        | nx => exact fun W' σ' H' x' r' l' => ⟨l', W', E3, M3, r', p.step x'⟩
        | ct => exact fun W' σ' H' x' r' l' => ⟨l', W', E3, M3, r', p.step x'⟩
        | bk => exact fun W' σ' H' x' r' l' _ => p W' σ' H' x' r' l'
        | rt d => exact fun W' σ' H' x' r' l' v hv _ => p W' σ' H' x' r' l' v hv
        | ex c ds => exact fun W' σ' H' x' r' l' => p W' σ' H' x' r' l'
end
end J
namespace J
open PySem PySem.Spec L2

/-! ### new objects into slots, cells -/
@[simp] def cellOf : D → Option Cell
  | .lst ds => some (.lst ds)
  | .dK kvs => some (.dK kvs)
  | .dT kvs => some (.dT kvs)
  | .obj c ds => some (.ins c ds)
  | _ => none
theorem cellOf_tree (c : Cell) : cellOf c.tree = some c := by cases c <;> rfl
@[simp] def R.stG {α : Type} (E : Env) (r : R α) (k : α → Mem → R (Fl × Env)) : R (Fl × Env) := match r with
  | .ok d M => k d M
  | .exc c ds M => .ok (.ex c ds, E) M
  | .bad => .bad
/-- a new object into an own slot -/
@[simp] def sOwn (i : Nat) (f : CE) : CS := fun E M => (f E M).stG E fun d M => match cellOf d with
  | some c => .ok (.nx, E.set i (.ow c)) M
  | none => .bad
/-- a new object as a cell -/
@[simp] def cNew (f : CE) : CE := fun E M => (f E M).bind fun d M => match cellOf d with
  | some c => .ok (.loc M.length) (M ++ [c])
  | none => .bad
/-- a frame's own cell becomes a common one -/
@[simp] def sPub (i : Nat) : CS := fun E M => match E[i]? with
  | some (.ow c) => .ok (.nx, E.set i (.sh (.loc M.length))) (M ++ [c])
  | _ => .bad

inductive RK where
  | own (i : Nat)
  | loc (l : Nat)
abbrev CR := Env → Mem → R RK
@[simp] def rOwn (i : Nat) : CR := fun E M => match E[i]? with | some (.ow _) => .ok (.own i) M | _ => .bad
@[simp] def rLoc (f : CE) : CR := fun E M => (f E M).bind fun d M => match d with | .loc l => .ok (.loc l) M | _ => .bad
@[simp] def RK.get : RK → Env → Mem → Option Cell
  | .own i, E, _ => match E[i]? with | some (.ow c) => some c | _ => none
  | .loc l, _, M => M[l]?
@[simp] def RK.putE : RK → Cell → Env → Env
  | .own i, c, E => E.set i (.ow c)
  | .loc _, _, E => E
@[simp] def RK.putM : RK → Cell → Mem → Mem
  | .own _, _, M => M
  | .loc l, c, M => M.set l c
/-- the cell is written -/
@[simp] def upK (k : RK) (o : Option Cell) (E : Env) (M : Mem) : R (Fl × Env) := match o with
  | some c => .ok (.nx, k.putE c E) (k.putM c M)
  | none => .bad
@[simp] def kApp (d : D) : Cell → Option Cell
  | .lst ds => if ds.length < sizeMax then some (.lst (ds ++ [d])) else none
  | _ => none
@[simp] def kExt (es : List D) : Cell → Option Cell
  | .lst ds => if ds.length + es.length ≤ sizeMax then some (.lst (ds ++ es)) else none
  | _ => none
@[simp] def kSetL (k d : D) : Cell → Option Cell
  | .lst ds => match k with
    | .int i => (ixN ds.length i).map fun j => .lst (ds.set j d)
    | _ => none
  | _ => none
@[simp] def kPut (k d : D) : Cell → Option Cell
  | .dK kvs => if kvs.length < sizeMax then (keyOf k).map fun k => .dK (put kvs k d) else none
  | .dT kvs => match k with
    | .tup ks => if kvs.length < sizeMax then (keysOf ks).map fun k => .dT (put kvs k d) else none
    | _ => none
  | _ => none
@[simp] def kFld (n j : Nat) (d : D) : Cell → Option Cell
  | .ins c ds => if c = n then (if j < ds.length then some (.ins c (ds.set j d)) else if j = ds.length then some (.ins c (ds ++ [d])) else none) else none
  | _ => none
/-- r.append(f) -/
@[simp] def sApp (r : CR) (f : CE) : CS := fun E M => (r E M).stG E fun k M => match k.get E M with
  | some (.lst _) => (f E M).stG E fun d M => upK k ((k.get E M).bind (kApp d)) E M
  | _ => .bad
/-- r.extend(f) -/
@[simp] def sExt (r : CR) (f : CE) : CS := fun E M => (r E M).stG E fun k M => match k.get E M with
  | some (.lst _) => (f E M).stG E fun d M => match d with
    | .lst es => upK k ((k.get E M).bind (kExt es)) E M
    | _ => .bad
  | _ => .bad
/-- r[fi] = f -/
@[simp] def sSetL (r : CR) (fi f : CE) : CS := fun E M => (f E M).stG E fun d M => (r E M).stG E fun k M => (fi E M).stG E fun i M => upK k ((k.get E M).bind (kSetL i d)) E M
@[simp] def sPut (r : CR) (fi f : CE) : CS := fun E M => (f E M).stG E fun d M => (r E M).stG E fun k M => (fi E M).stG E fun i M => upK k ((k.get E M).bind (kPut i d)) E M
/-- r.x = f -/
@[simp] def sFld (n j : Nat) (r : CR) (f : CE) : CS := fun E M => (f E M).stG E fun d M => (r E M).stG E fun k M => upK k ((k.get E M).bind (kFld n j d)) E M

section
variable {G : Gm} {Wx : WX} {W0 W W1 W' : Wd} {H0 H H1 H' : Hp} {σ : L2.St} {E : Env} {M M1 : Mem} {d : D} {v : V} {ds : List D} {a b : Addr} {c c' : Cell} {o' : HO}

theorem CellOk.nofrz (h : CellOk G W H a c) (o : Obj) (u : HO) : H a ≠ some (.frz o u) := by
  intro q
  cases c with
  | lst ds => obtain ⟨vs, e, _⟩ := h; rw [e] at q; cases q
  | dK ds => obtain ⟨vs, e, _⟩ := h; rw [e] at q; cases q
  | dT ds => obtain ⟨vs, e, _⟩ := h; rw [e] at q; cases q
  | ins c ds => obtain ⟨nm, ns, C, dx, vs, _, _, e, _⟩ := h; rw [e] at q; cases q
theorem Ext0.put (h : CellOk G W H a c) (z : ¬ W.Z a) : Ext0 W H W (upd H a o') := by
  have nz : ∀ b, W.Z b → b ≠ a := fun b hb q => z (by rw [← q]; exact hb)
  refine ⟨⟨⟨[], by simp⟩, fun _ z => z, fun b u zb f r => ?_, fun b vs zb e => ?_, fun b o vs e => ?_, fun b vs e => ?_, fun b C dx fs zb e => ?_⟩, fun b o u e => by rw [upd_ne (fun q => by subst q; exact h.nofrz _ _ e)]; exact e⟩
  · rcases r with r | ⟨o, r⟩
    · exact .inl (by rw [upd_ne (nz b zb)]; exact r)
    · exact .inr ⟨o, by rw [upd_ne (nz b zb)]; exact r⟩
  · rw [upd_ne (nz b zb)]; exact e
  · rw [upd_ne (fun q => by subst q; exact h.nofrz _ _ e)]; exact e
  · rw [upd_ne (fun q => by subst q; exact h.notup _ e)]; exact e
  · rw [upd_ne (nz b zb)]; exact e
theorem LenOk.upd (l : LenOk H) (h1 : ∀ vs, o' = .lst vs → vs.length ≤ sizeLine) (h2 : ∀ vs, o' ≠ .tup vs) (h3 : ∀ ob u, o' ≠ .frz ob u) : LenOk (L2.upd H a o') := by
  refine ⟨fun b vs h => ?_, fun b vs h => ?_⟩
  · by_cases q : b = a
    · subst q
      rcases h with h | ⟨ob, h⟩
      · rw [upd_same] at h; exact h1 _ (Option.some.inj h)
      · rw [upd_same] at h; exact (h3 _ _ (Option.some.inj h)).elim
    · refine l.1 b vs ?_
      rcases h with h | ⟨ob, h⟩
      · exact .inl (by rw [upd_ne q] at h; exact h)
      · exact .inr ⟨ob, by rw [upd_ne q] at h; exact h⟩
  · by_cases q : b = a
    · subst q
      rw [upd_same] at h; exact (h2 _ (Option.some.inj h)).elim
    · rw [upd_ne q] at h; exact l.2 b vs h

theorem Rel.setOwn (r : Rel G W0 H0 W σ H E M) (i : Nat) (h : CellOk G W H a c) (as : Aside W σ E a) (n : H0 a = none) : Rel G W0 H0 W (σ.set i (some (.ref a))) H (E.set i (.ow c)) M := by
  have hl : ∀ {s j}, (E.set i (.ow c))[j]? = some s → (j = i ∧ s = .ow c ∧ i < E.length) ∨ (j ≠ i ∧ E[j]? = some s) := fun {s j} hs => by
    by_cases e : i = j
    · subst e
      have hl : i < E.length := by
        have := (List.getElem?_eq_some_iff.mp hs).1
        rwa [List.length_set] at this
      rw [List.getElem?_set_self hl] at hs
      exact .inl ⟨rfl, (Option.some.inj hs).symm, hl⟩
    · rw [List.getElem?_set_ne e] at hs
      exact .inr ⟨fun q => e q.symm, hs⟩
  have hs1 : i < E.length → (σ.set i (some (V.ref a)))[i]? = some (some (.ref a)) := fun h => List.getElem?_set_self (by rw [← r.sz]; exact h)
  refine ⟨r.toCRel, r.ext, fun j s hs => ?_, by rw [List.length_set, List.length_set]; exact r.sz, fun j k c1 c2 b h1 h2 h3 h4 => ?_⟩
  · rcases hl hs with ⟨rfl, rfl, q⟩ | ⟨ne, hs⟩
    · exact ⟨a, hs1 q, h, as.ph, as.z, n⟩
    · have q := r.slt j s hs
      cases s with
      | un => exact True.intro
      | sh d => obtain ⟨w, e2, h2⟩ := q; exact ⟨w, by rw [List.getElem?_set_ne (Ne.symm ne)]; exact e2, h2⟩
      | ow c => obtain ⟨b, e2, h2⟩ := q; exact ⟨b, by rw [List.getElem?_set_ne (Ne.symm ne)]; exact e2, h2⟩
  · rcases hl h1 with ⟨e1, q1, z1⟩ | ⟨n1, g1⟩
    · rcases hl h2 with ⟨e2, q2, z2⟩ | ⟨n2, g2⟩
      · rw [e1, e2]
      · exfalso
        rw [e1, hs1 z1] at h3
        rw [List.getElem?_set_ne (Ne.symm n2)] at h4
        cases h3
        exact as.ow k c2 g2 h4
    · rcases hl h2 with ⟨e2, q2, z2⟩ | ⟨n2, g2⟩
      · exfalso
        rw [e2, hs1 z2] at h4
        rw [List.getElem?_set_ne (Ne.symm n1)] at h3
        cases h4
        exact as.ow j c1 g1 h3
      · rw [List.getElem?_set_ne (Ne.symm n1)] at h3
        rw [List.getElem?_set_ne (Ne.symm n2)] at h4
        exact r.own j k c1 c2 b g1 g2 h3 h4
/-- one more cell -/
abbrev Wd.add (W : Wd) (a : Addr) : Wd := ⟨W.phi ++ [a], W.Z⟩
theorem Ext0.add : Ext0 W H (W.add a) H := ⟨⟨⟨[a], rfl⟩, fun _ z => z, fun a u z f r => r, fun a vs z e => e, fun a o vs e => e, fun a xs e => e, fun a C dx fs z e => e⟩, fun a o u e => e⟩
theorem Rel.addLoc (r : Rel G W0 H0 W σ H E M) (h : CellOk G W H a c) (as : Aside W σ E a) (n : H0 a = none) : Rel G W0 H0 (W.add a) σ H E (M ++ [c]) := by
  refine ⟨⟨by rw [List.length_append, List.length_append, r.len]; rfl, fun l cl b h1 h2 => ?_, ?_, fun b hb z => ?_, r.zs⟩, ⟨r.ext.toExt0.trans Ext0.add, fun b hb => ?_, r.ext.zn, r.ext.keep⟩, fun i s hs => ?_, r.sz, r.own⟩
  · by_cases q : l < M.length
    · rw [List.getElem?_append_left q] at h1
      rw [List.getElem?_append_left (by rw [r.len]; exact q)] at h2
      exact (r.cel l cl b h1 h2).mono Ext0.add fun o h => h
    · rw [List.getElem?_append_right (Nat.le_of_not_lt q)] at h1
      rw [List.getElem?_append_right (by rw [r.len]; exact Nat.le_of_not_lt q), r.len] at h2
      have e : l - M.length = 0 := by
        have := (List.getElem?_eq_some_iff.mp h1).1
        simp at this
        omega
      rw [e] at h1 h2
      simp at h1 h2
      subst h1 h2
      exact h.mono Ext0.add fun o h => h
  · refine List.nodup_append.mpr ⟨r.nd, by simp, fun x hx y hy => ?_⟩
    rw [List.mem_singleton.mp hy]
    intro q
    subst q
    exact as.ph hx
  · rcases List.mem_append.mp hb with q | q
    · exact r.sep b q z
    · rw [List.mem_singleton.mp q] at z; exact as.z z
  · rcases List.mem_append.mp hb with q | q
    · exact r.ext.fr b q
    · rw [List.mem_singleton.mp q]; exact .inr n
  · have q := r.slt i s hs
    cases s with
    | un => exact True.intro
    | sh d => obtain ⟨w, e2, h2⟩ := q; exact ⟨w, e2, h2.mono Ext0.add⟩
    | ow c =>
      obtain ⟨b, e2, h2, n1, n2, n3⟩ := q
      refine ⟨b, e2, h2.mono Ext0.add fun o ho => ho, fun z => ?_, n2, n3⟩
      rcases List.mem_append.mp z with q | q
      · exact n1 q
      · rw [List.mem_singleton.mp q] at e2; exact as.ow i c hs e2

/-- where a receiver lies -/
def RcvAt (W : Wd) (σ : L2.St) (E : Env) (M : Mem) (a : Addr) (c : Cell) : RK → Prop
  | .own i => E[i]? = some (.ow c) ∧ σ[i]? = some (some (.ref a))
  | .loc l => M[l]? = some c ∧ W.phi[l]? = some a
theorem RcvAt.ok {k : RK} (r : Rel G W0 H0 W σ H E M) (h : RcvAt W σ E M a c k) : CellOk G W H a c ∧ ¬ W.Z a := by
  cases k with
  | own i =>
    obtain ⟨h1, h2⟩ := h
    obtain ⟨b, e, h, n1, n2, n3⟩ := r.slt i _ h1
    rw [h2] at e; cases e
    exact ⟨h, n2⟩
  | loc l =>
    obtain ⟨h1, h2⟩ := h
    exact ⟨r.cel l c a h1 h2, r.sep a (List.mem_of_getElem? h2)⟩
theorem RcvAt.put {k : RK} (r : Rel G W0 H0 W σ H E M) (h : RcvAt W σ E M a c k) (new : CellOk G W (upd H a o') a c') : Rel G W0 H0 W σ (upd H a o') (k.putE c' E) (k.putM c' M) := by
  obtain ⟨hc, hz⟩ := h.ok r
  have x : Ext0 W H W (upd H a o') := Ext0.put hc hz
  have zs : ∀ b, W.Z b → ∃ o, upd H a o' b = some o := fun b z => by
    obtain ⟨o, e⟩ := r.zs b z
    exact ⟨o, by rw [upd_ne (fun q => hz (by rw [← q]; exact z))]; exact e⟩
  cases k with
  | own i =>
    obtain ⟨h1, h2⟩ := h
    obtain ⟨a', e, _, n1, n2, n3⟩ := r.slt i _ h1
    rw [h2] at e; cases e
    have hl : ∀ {s j}, (E.set i (.ow c'))[j]? = some s → (j = i ∧ s = .ow c') ∨ (j ≠ i ∧ E[j]? = some s) := fun {s j} hs => by
      by_cases e : i = j
      · subst e
        have hl : i < E.length := by
          have := (List.getElem?_eq_some_iff.mp hs).1
          rwa [List.length_set] at this
        rw [List.getElem?_set_self hl] at hs
        exact .inl ⟨rfl, (Option.some.inj hs).symm⟩
      · rw [List.getElem?_set_ne e] at hs
        exact .inr ⟨fun q => e q.symm, hs⟩
    have back : ∀ {j : Nat} {c2 : Cell}, (E.set i (.ow c'))[j]? = some (.ow c2) → ∃ c3 : Cell, E[j]? = some (.ow c3) := fun {j c2} hs => by
      rcases hl hs with ⟨rfl, _⟩ | ⟨_, q⟩
      · exact ⟨_, h1⟩
      · exact ⟨_, q⟩
    refine ⟨⟨r.len, fun l cl b q1 q2 => (r.cel l cl b q1 q2).mono x fun o ho => by rw [upd_ne (fun q => n1 (by rw [← q]; exact List.mem_of_getElem? q2))]; exact ho, r.nd, r.sep, zs⟩, ⟨r.ext.toExt0.trans x, r.ext.fr, r.ext.zn, fun b o q1 q2 q3 => ?_⟩, fun j s hs => ?_, by show (E.set i _).length = _; rw [List.length_set]; exact r.sz, fun j k c1 c2 b q1 q2 q3 q4 => ?_⟩
    · rw [upd_ne (fun q => by subst q; rw [n3] at q1; cases q1)]; exact r.ext.keep b o q1 q2 q3
    · rcases hl hs with ⟨rfl, rfl⟩ | ⟨ne, hs⟩
      · exact ⟨a, h2, new, n1, n2, n3⟩
      · have q := r.slt j s hs
        cases s with
        | un => exact True.intro
        | sh d => obtain ⟨w, e2, h2⟩ := q; exact ⟨w, e2, h2.mono x⟩
        | ow c2 =>
          obtain ⟨b, e2, h3, m1, m2, m3⟩ := q
          exact ⟨b, e2, h3.mono x fun o ho => by rw [upd_ne (fun q => ne (r.own j i c2 c b hs h1 e2 (by rw [q]; exact h2)))]; exact ho, m1, m2, m3⟩
    · obtain ⟨c3, b1⟩ := back q1
      obtain ⟨c4, b2⟩ := back q2
      exact r.own j k c3 c4 b b1 b2 q3 q4
  | loc l =>
    obtain ⟨h1, h2⟩ := h
    have hm : a ∈ W.phi := List.mem_of_getElem? h2
    have hl : l < M.length := (List.getElem?_eq_some_iff.mp h1).1
    refine ⟨⟨by show _ = (M.set l _).length; rw [List.length_set]; exact r.len, fun m cl b q1 q2 => ?_, r.nd, r.sep, zs⟩, ⟨r.ext.toExt0.trans x, r.ext.fr, r.ext.zn, fun b o q1 q2 q3 => ?_⟩, fun j s hs => ?_, r.sz, r.own⟩
    · have q1 : (M.set l c')[m]? = some cl := q1
      by_cases e : l = m
      · subst e
        rw [List.getElem?_set_self hl] at q1
        rw [h2] at q2
        cases q1; cases q2
        exact new
      · rw [List.getElem?_set_ne e] at q1
        refine (r.cel m cl b q1 q2).mono x fun o ho => ?_
        rw [upd_ne (fun q => ?_)]
        · exact ho
        · subst q
          obtain ⟨l1, e1⟩ := List.getElem?_eq_some_iff.mp h2
          obtain ⟨l2, e2⟩ := List.getElem?_eq_some_iff.mp q2
          exact e ((List.getElem_inj r.nd).mp (e1.trans e2.symm))
    · refine (upd_ne (fun q => ?_)).trans (r.ext.keep b o q1 q2 q3)
      subst q
      rcases r.ext.fr b hm with z | z
      · exact q2 z
      · rw [q1] at z; cases z
    · have q := r.slt j s hs
      cases s with
      | un => exact True.intro
      | sh d => obtain ⟨w, e2, h2⟩ := q; exact ⟨w, e2, h2.mono x⟩
      | ow c2 =>
        obtain ⟨b, e2, h3, m1, m2, m3⟩ := q
        exact ⟨b, e2, h3.mono x fun o ho => by rw [upd_ne (fun q => m1 (by rw [q]; exact hm))]; exact ho, m1, m2, m3⟩
/-- anything first -/
theorem PostS.bindG {α β : Type} {Rp : Wd → Hp → α → β → Prop} {r : R α} {k : α → Mem → R (Fl × Env)} {D : Ends} {Q' : β → Hp → Prop} (h : PostS G Wx W0 H0 W H (r.stG E k) D)
    (hk : ∀ d M1 W1 H1 v, r = .ok d M1 → Ext W H W1 H1 → Rel G W0 H0 W1 σ H1 E M1 → Rp W1 H1 d v → LenOk H1 → PostS G Wx W0 H0 W1 H1 (k d M1) D → Q' v H1) : Post G Wx Rp W0 H0 W H σ E r Q' := by
  cases r with
  | ok d M1 => exact fun W' H' v x r p l => hk d M1 W' H' v rfl x r p l (h.step x.toExt0)
  | exc c ds M1 => exact fun W' H' C o x r p l => h W' σ H' x.toExt0 r l C o p
  | bad => exact h
/-- a receiver's value -/
def RpR (G : Gm) (σ : L2.St) : Wd → Hp → RK → V → Prop := fun W' H' k v => match k with
  | .own i => σ[i]? = some (some v)
  | .loc l => Rep G W' H' (.loc l) v
def tR (G : Gm) (Wx : WX) (f : CR) : TE := fun σ H Q => ∃ W0 H0 W E M, Rel G W0 H0 W σ H E M ∧ Post G Wx (RpR G σ) W0 H0 W H σ E (f E M) Q
theorem RpR.mono {k : RK} (x : Ext0 W H W' H') (h : RpR G σ W H k v) : RpR G σ W' H' k v := by
  cases k with
  | own i => exact h
  | loc l => exact Rep.mono x h
theorem RpR.at {k : RK} (r : Rel G W0 H0 W σ H E M) (h : RpR G σ W H k v) (g : k.get E M = some c) : ∃ a, v = .ref a ∧ RcvAt W σ E M a c k := by
  cases k with
  | own i =>
    dsimp only [RK.get] at g
    split at g
    · rename_i c1 q
      cases g
      obtain ⟨a, e, _⟩ := r.slt i _ q
      have h : σ[i]? = some (some v) := h
      rw [h] at e; cases e
      exact ⟨a, rfl, q, h⟩
    · cases g
  | loc l =>
    cases h with
    | @loc a l h => exact ⟨a, rfl, g, h⟩
end

section
variable {X : Cx} {ct : List (Str × List Str)} {Wx : WX} {e e1 ei o a b tg iter : Expr} {es : List Expr} {f f1 f2 fi : CE} {r : CR} {it g : CA} {t t1 t2 : CT} {pos p p' : Pos} {x y : Str} {st : Stmt} {sts : List Stmt} {s s1 s2 : CS}
/-- a new list -/
theorem n_lst (h : PAf X ct Wx es g) : PNf X ct Wx (.List es pos) (cLst g) := by
  refine PE.fin (pe_lst h) ?_
  rintro σ H Q l ⟨W0, H0, W, E, M, rel, p⟩
  refine ⟨W0, H0, W, E, M, rel, Post.bind p fun d1 M1 W1 H1 v1 _ x1 rel1 p1 l1 p => ?_⟩
  by_cases c : d1.length ≤ sizeMax
  · rw [if_pos c] at p
    have c' : v1.length ≤ sizeLine := by rw [← p1.length]; exact c
    refine ⟨c', fun z hz l'' => ?_⟩
    have x := Ext.new (o := .lst v1) rel1.toCRel hz
    exact p W1 _ _ x (rel1.after x (rel1.toCRel.new hz)) ⟨z, .lst d1, rfl, rfl, ⟨v1, upd_same, p1.mono x.toExt0⟩, Aside.new rel1 hz, rel1.toCRel.was x1 hz⟩ l''
  · rw [if_neg c] at p; exact p.elim
/-- {} -/
@[simp] def cDK : CE := fun _ M => .ok (.dK []) M
@[simp] def cDT : CE := fun _ M => .ok (.dT []) M
theorem n_dK : PNf X ct Wx (.Dict [] [] pos) cDK := by
  refine PE.fin pe_dnewK ?_
  rintro σ H Q l ⟨W0, H0, W, E, M, rel, p⟩
  intro z hz l''
  have x := Ext.new (o := .dK []) rel.toCRel hz
  exact p W _ _ x (rel.after x (rel.toCRel.new hz)) ⟨z, .dK [], rfl, rfl, ⟨[], upd_same, rfl, .nil⟩, Aside.new rel hz, hz⟩ l''
theorem n_dT : PNf X ct Wx (.Dict [] [] pos) cDT := by
  refine PE.fin pe_dnewT ?_
  rintro σ H Q l ⟨W0, H0, W, E, M, rel, p⟩
  intro z hz l''
  have x := Ext.new (o := .dT []) rel.toCRel hz
  exact p W _ _ x (rel.after x (rel.toCRel.new hz)) ⟨z, .dT [], rfl, rfl, ⟨[], upd_same, rfl, .nil⟩, Aside.new rel hz, hz⟩ l''
/-- a new object as a common cell -/
theorem pf_new (h : PNf X ct Wx e f) : PF X ct Wx e (cNew f) := by
  refine PE.fin h ?_
  rintro σ H Q l ⟨W0, H0, W, E, M, rel, p⟩
  refine ⟨W0, H0, W, E, M, rel, ?_⟩
  dsimp only [cNew] at p
  cases q : f E M with
  | bad => rw [q] at p; exact p
  | exc c ds M' => rw [q] at p; exact p
  | ok d M' =>
    rw [q] at p
    rintro W' H' v x r ⟨a, c, rfl, rfl, hc, as, ha⟩ l' _
    dsimp only [R.bind] at p
    rw [cellOf_tree] at p
    have z0 : H0 a = none := rel.toCRel.was rel.ext ha
    have r2 := r.addLoc hc as z0
    exact p (W'.add a) H' _ ⟨x.toExt0.trans Ext0.add, fun b hb => by
      rcases List.mem_append.mp hb with z | z
      · exact x.fr b z
      · rw [List.mem_singleton.mp z]; exact .inr ha, x.zn, x.keep⟩ r2 (.loc (by rw [← r.len]; simp)) l'
/-- a new object into a slot -/
theorem own_end {W0 W W1 : Wd} {H0 H H1 : Hp} {σ : L2.St} {E : Env} {M M1 : Mem} {D : Ends} {d : J.D} {v : V} (i : Nat) (h0 : H0 = H0) (rel : Rel (Gx X ct) W0 H0 W σ H E M) (rel1 : Rel (Gx X ct) W0 H0 W1 σ H1 E M1) (r1 : RpN (Gx X ct) σ E H W1 H1 d v) (l1 : LenOk H1)
    (p : PostS (Gx X ct) Wx W0 H0 W1 H1 (match cellOf d with | some c => R.ok (Fl.nx, E.set i (.ow c)) M1 | none => .bad) D) : (Dl D).nx (σ.set i (some v)) H1 := by
  obtain ⟨a, c, rfl, rfl, hc, as, ha⟩ := r1
  rw [cellOf_tree] at p
  exact fun l => p W1 _ H1 Ext0.refl (rel1.setOwn i hc as (rel.toCRel.was rel.ext ha)) l
theorem s_own (i : Nat) (hN : X.N.Nodup) (he : PNf X ct Wx e f) (hi : X.N[i]? = some x := by rfl) (hx : Loc X.env.scope x := by first | exact .inl rfl | exact .inr rfl) (hs : swapsWith e (some (.Name x p')) pos.line X.env = pure false := by rfl) (hf : X.fn x = true ∨ X.env.scope.names.lookup x = some .local := by first | exact .inl rfl | exact .inr rfl | assumption) : PSf X ct Wx (.Assign [.Name x p'] e pos) (sOwn i f) := by
  refine PS_fin (ps_set hN hi hx he hs hf) ?_
  rintro D σ H l ⟨W0, H0, W, E, M, rel, p⟩
  refine ⟨W0, H0, W, E, M, rel, PostS.bindG p fun d M1 W1 H1 v _ x1 rel1 r1 l1 p => ?_⟩
  exact own_end i rfl rel rel1 r1 l1 p
end
end J
namespace J
open PySem PySem.Spec L2

section
variable {X : Cx} {ct : List (Str × List Str)} {Wx : WX} {e e1 ei o a b tg iter elt value : Expr} {es ifs : List Expr} {f f1 f2 fi : CE} {r : CR} {it g : CA} {t t1 t2 : CT} {pos p p' : Pos} {x y : Str} {st : Stmt} {sts : List Stmt} {s s1 s2 : CS}

/-- name = [..] on one line -/
theorem s_ownLc {scope : Scope} {is : List Nat} {own : List (Str × Nat)} {gg : CG} {gt : TG} (i : Nat) (hc : X.calm = true) (hN : X.N.Nodup) (hsw : swapsWith (.ListComp elt [⟨tg, iter, ifs, 0⟩] scope pos) (some (.Name y p)) p'.line X.env = pure true) (hi : PIf X ct Wx tg iter it) (ok : BlkOk X.N X.env.scope scope own)
    (hg : ∀ (s : Shared) (H : Hp) (C : Addr) (cl : List (Str × Addr)) (fp : List Addr), PGf (X.blk s H scope (compEnvC scope cl C X.env) fp) ct tg is gt gg)
    (ht : ∀ (s : Shared) (H : Hp) (C : Addr) (cl : List (Str × Addr)) (fp : List Addr), PTsf (X.blk s H scope (compEnvC scope cl C X.env) fp) ct Wx ifs t)
    (he : ∀ (s : Shared) (H : Hp) (C : Addr) (cl : List (Str × Addr)) (fp : List Addr), PF (X.blk s H scope (compEnvC scope cl C X.env) fp) ct Wx elt f) (his : ∀ i ∈ is, i ∈ own.map (·.2) := by decide) (hy : X.N[i]? = some y := by rfl) (hyl : X.env.scope.names.lookup y = some .local := by rfl) (hs : ∀ x, foldedSetIterable iter X.env x = pure x := by intro _; rfl) :
    PSf X ct Wx (.Assign [.Name y p] (.ListComp elt [⟨tg, iter, ifs, 0⟩] scope pos) p') (sOwn i (cComp (own.map (·.2)) it gg t f)) := by
  have h := ps_setLc (spos := p') (py := p) (pos := pos) (tt := tT (Gx X ct) Wx t) (te := tF (Gx X ct) Wx f) hc hN hy hyl hsw hi ok (fun s H C cl fp => (hg s H C cl fp).1) ht he hs
  refine ⟨fun pins s σ H D I q => thn (h.run pins s σ H (Dl D) I ?_) fun _ _ q => SP.dl q⟩
  obtain ⟨W0, H0, W, E, M, rel, p⟩ := q
  refine tLc_of (X := X) (hg s H 0 [] []).2 his ⟨W0, H0, W, E, M, rel, PostS.bindG p fun d M1 W1 H1 v _ x1 rel1 r1 l1 p => ?_⟩
  exact own_end i rfl rel rel1 r1 l1 p
theorem PostS.bindD {W0 W : Wd} {H0 H : Hp} {σ : L2.St} {E : Env} {G : Gm} {β : Type} {Rp : Wd → Hp → J.D → β → Prop} {r : R J.D} {k : J.D → Mem → R (Fl × Env)} {D : Ends} {Q' : β → Hp → Prop} (h : PostS G Wx W0 H0 W H (r.st E k) D)
    (hk : ∀ d M1 W1 H1 v, r = .ok d M1 → Ext W H W1 H1 → Rel G W0 H0 W1 σ H1 E M1 → Rp W1 H1 d v → LenOk H1 → PostS G Wx W0 H0 W1 H1 (k d M1) D → Q' v H1) : Post G Wx Rp W0 H0 W H σ E r Q' := by
  cases r with
  | ok d M1 => exact fun W' H' v x r p l => hk d M1 W' H' v rfl x r p l (h.step x.toExt0)
  | exc c ds M1 => exact fun W' H' C o x r p l => h W' σ H' x.toExt0 r l C o p
  | bad => exact h
/-- the same, frozen at once -/
theorem asg_endN {W0 W W1 : Wd} {H0 H H1 : Hp} {σ : L2.St} {E : Env} {M M1 : Mem} {D : Ends} {d : J.D} {v : V} (i : Nat) (rel : Rel (Gx X ct) W0 H0 W σ H E M) (rel1 : Rel (Gx X ct) W0 H0 W1 σ H1 E M1) (r1 : RpN (Gx X ct) σ E H W1 H1 d v) (l1 : LenOk H1)
    (p : PostS (Gx X ct) Wx W0 H0 W1 H1 (.ok (Fl.nx, E.set i (.sh d)) M1) D) : (Dl D).nx (σ.set i (some v)) H1 := by
  obtain ⟨a, c, rfl, rfl, hc, as, ha⟩ := r1
  have r2 := rel1.frzA as (rel.toCRel.was rel.ext ha) hc.isS
  exact fun l => p (W1.frz a) _ H1 Ext0.frz (r2.set i ((hc.mono Ext0.frz fun o h => h).rep (.inr rfl))) l
theorem s_setLc {scope : Scope} {is : List Nat} {own : List (Str × Nat)} {gg : CG} {gt : TG} (i : Nat) (hc : X.calm = true) (hN : X.N.Nodup) (hsw : swapsWith (.ListComp elt [⟨tg, iter, ifs, 0⟩] scope pos) (some (.Name y p)) p'.line X.env = pure true) (hi : PIf X ct Wx tg iter it) (ok : BlkOk X.N X.env.scope scope own)
    (hg : ∀ (s : Shared) (H : Hp) (C : Addr) (cl : List (Str × Addr)) (fp : List Addr), PGf (X.blk s H scope (compEnvC scope cl C X.env) fp) ct tg is gt gg)
    (ht : ∀ (s : Shared) (H : Hp) (C : Addr) (cl : List (Str × Addr)) (fp : List Addr), PTsf (X.blk s H scope (compEnvC scope cl C X.env) fp) ct Wx ifs t)
    (he : ∀ (s : Shared) (H : Hp) (C : Addr) (cl : List (Str × Addr)) (fp : List Addr), PF (X.blk s H scope (compEnvC scope cl C X.env) fp) ct Wx elt f) (his : ∀ i ∈ is, i ∈ own.map (·.2) := by decide) (hy : X.N[i]? = some y := by rfl) (hyl : X.env.scope.names.lookup y = some .local := by rfl) (hs : ∀ x, foldedSetIterable iter X.env x = pure x := by intro _; rfl) :
    PSf X ct Wx (.Assign [.Name y p] (.ListComp elt [⟨tg, iter, ifs, 0⟩] scope pos) p') (sAsg (gN i) (cComp (own.map (·.2)) it gg t f)) := by
  have h := ps_setLc (spos := p') (py := p) (pos := pos) (tt := tT (Gx X ct) Wx t) (te := tF (Gx X ct) Wx f) hc hN hy hyl hsw hi ok (fun s H C cl fp => (hg s H C cl fp).1) ht he hs
  refine ⟨fun pins s σ H D I q => thn (h.run pins s σ H (Dl D) I ?_) fun _ _ q => SP.dl q⟩
  obtain ⟨W0, H0, W, E, M, rel, p⟩ := q
  refine tLc_of (X := X) (hg s H 0 [] []).2 his ⟨W0, H0, W, E, M, rel, PostS.bindD p fun d M1 W1 H1 v _ x1 rel1 r1 l1 p => ?_⟩
  exact asg_endN i rel rel1 r1 l1 p

/-! ### ghosts -/
theorem ss_frz (i : Nat) (h : PSsf X ct Wx sts s) : PSsf X ct Wx sts (sSeq (sFrz i) s) := by
  refine PSs_fin h ?_
  rintro D σ H l ⟨W0, H0, W, E, M, rel, p⟩
  dsimp only [sSeq, sFrz] at p
  cases q : E[i]? with
  | none => rw [q] at p; exact p.elim
  | some sl =>
    cases sl with
    | un => rw [q] at p; exact p.elim
    | sh d => rw [q] at p; exact p.elim
    | ow c =>
      rw [q] at p
      obtain ⟨a, e, h, n1, n2, n3⟩ := rel.slt i _ q
      -- the slot first, so that it is nobody's own
      have rel2 : Rel (Gx X ct) W0 H0 (W.frz a) σ H (E.set i (.sh c.tree)) M := by
        have hl : ∀ {s : Sl} {j : Nat}, (E.set i (.sh c.tree))[j]? = some s → (j = i ∧ s = .sh c.tree) ∨ (j ≠ i ∧ E[j]? = some s) := fun {s j} hs => by
          by_cases e : i = j
          · subst e
            have hl : i < E.length := by
              have := (List.getElem?_eq_some_iff.mp hs).1
              rwa [List.length_set] at this
            rw [List.getElem?_set_self hl] at hs
            exact .inl ⟨rfl, (Option.some.inj hs).symm⟩
          · rw [List.getElem?_set_ne e] at hs
            exact .inr ⟨fun q => e q.symm, hs⟩
        refine ⟨⟨rel.len, fun l cl b h1 h2 => (rel.cel l cl b h1 h2).mono Ext0.frz fun o h => h, rel.nd, fun b hb z => ?_, fun b z => ?_⟩, ⟨rel.ext.toExt0.trans Ext0.frz, rel.ext.fr, fun b z => ?_, rel.ext.keep⟩, fun j s hs => ?_, by rw [List.length_set]; exact rel.sz, fun j k c1 c2 b h1 h2 h3 h4 => ?_⟩
        · rcases z with z | z
          · exact rel.sep b hb z
          · subst z; exact n1 hb
        · rcases z with z | z
          · exact rel.zs b z
          · subst z; exact h.isS
        · rcases z with z | z
          · exact rel.ext.zn b z
          · subst z; exact .inr n3
        · rcases hl hs with ⟨rfl, rfl⟩ | ⟨ne, hs⟩
          · exact ⟨_, e, (h.mono Ext0.frz fun o h => h).rep (.inr rfl)⟩
          · have q2 := rel.slt j s hs
            cases s with
            | un => exact True.intro
            | sh d => obtain ⟨w, e2, h2⟩ := q2; exact ⟨w, e2, h2.mono Ext0.frz⟩
            | ow c2 =>
              obtain ⟨b, e2, h2, m1, m2, m3⟩ := q2
              refine ⟨b, e2, h2.mono Ext0.frz fun o ho => ho, m1, fun z => ?_, m3⟩
              rcases z with z | z
              · exact m2 z
              · subst z; exact ne (rel.own j i c2 c _ hs q e2 e)
        · rcases hl h1 with ⟨_, q1⟩ | ⟨_, h1⟩
          · cases q1
          · rcases hl h2 with ⟨_, q2⟩ | ⟨_, h2⟩
            · cases q2
            · exact rel.own j k c1 c2 b h1 h2 h3 h4
      exact ⟨W0, H0, _, _, _, rel2, PostS.dl (PostS.step Ext0.frz p)⟩
theorem Aside.noMem {G : Gm} {W0 W : Wd} {H0 H : Hp} {σ : L2.St} {E : Env} {M : Mem} : True := trivial
theorem ss_pub (i : Nat) (h : PSsf X ct Wx sts s) : PSsf X ct Wx sts (sSeq (sPub i) s) := by
  refine PSs_fin h ?_
  rintro D σ H l ⟨W0, H0, W, E, M, rel, p⟩
  dsimp only [sSeq, sPub] at p
  cases q : E[i]? with
  | none => rw [q] at p; exact p.elim
  | some sl =>
    cases sl with
    | un => rw [q] at p; exact p.elim
    | sh d => rw [q] at p; exact p.elim
    | ow c =>
      rw [q] at p
      obtain ⟨a, e, h, n1, n2, n3⟩ := rel.slt i _ q
      have hl : ∀ {s : Sl} {j : Nat} {s0 : Sl}, (E.set i s0)[j]? = some s → (j = i ∧ s = s0) ∨ (j ≠ i ∧ E[j]? = some s) := fun {s j s0} hs => by
        by_cases e : i = j
        · subst e
          have hl : i < E.length := by
            have := (List.getElem?_eq_some_iff.mp hs).1
            rwa [List.length_set] at this
          rw [List.getElem?_set_self hl] at hs
          exact .inl ⟨rfl, (Option.some.inj hs).symm⟩
        · rw [List.getElem?_set_ne e] at hs
          exact .inr ⟨fun q => e q.symm, hs⟩
      -- the slot is forgotten, then told anew
      have rel1 : Rel (Gx X ct) W0 H0 W σ H (E.set i .un) M := by
        refine ⟨rel.toCRel, rel.ext, fun j s hs => ?_, by rw [List.length_set]; exact rel.sz, fun j k c1 c2 b h1 h2 h3 h4 => ?_⟩
        · rcases hl hs with ⟨rfl, rfl⟩ | ⟨ne, hs⟩
          · exact True.intro
          · exact rel.slt j s hs
        · rcases hl h1 with ⟨_, q1⟩ | ⟨_, h1⟩
          · cases q1
          · rcases hl h2 with ⟨_, q2⟩ | ⟨_, h2⟩
            · cases q2
            · exact rel.own j k c1 c2 b h1 h2 h3 h4
      have as : Aside W σ (E.set i .un) a := by
        refine ⟨n1, n2, fun j c2 hs q2 => ?_⟩
        rcases hl hs with ⟨_, z⟩ | ⟨ne, hs⟩
        · cases z
        · exact ne (rel.own j i c2 c a hs q q2 e)
      have rel2 := rel1.addLoc h as n3
      have rel3 : Rel (Gx X ct) W0 H0 (W.add a) σ H (E.set i (.sh (.loc M.length))) (M ++ [c]) := by
        refine ⟨rel2.toCRel, rel2.ext, fun j s hs => ?_, by rw [List.length_set]; exact rel.sz, fun j k c1 c2 b h1 h2 h3 h4 => ?_⟩
        · rcases hl hs with ⟨rfl, rfl⟩ | ⟨ne, hs⟩
          · exact ⟨_, e, .loc (by rw [← rel.len]; simp)⟩
          · exact rel2.slt j s (by rw [List.getElem?_set_ne (Ne.symm ne)]; exact hs)
        · rcases hl h1 with ⟨_, q1⟩ | ⟨_, h1⟩
          · cases q1
          · rcases hl h2 with ⟨_, q2⟩ | ⟨_, h2⟩
            · cases q2
            · exact rel.own j k c1 c2 b h1 h2 h3 h4
      exact ⟨W0, H0, _, _, _, rel3, PostS.dl (PostS.step Ext0.add p)⟩

/-! ### receivers -/
abbrev PRf (X : Cx) (ct : List (Str × List Str)) (Wx : WX) (e : Expr) (r : CR) : Prop := PE X e (tR (Gx X ct) Wx r)
theorem pr_own (i : Nat) (hN : X.N[i]? = some x := by rfl) (hv : Vis X.env.scope x := by first | exact Or.inl rfl | exact Or.inr (Or.inl rfl) | exact Or.inr (Or.inr rfl)) (hd : (x == ("__debug__" : Str)) = false := by decide)
    (hcd : (x == ("__classdict__" : Str)) = false := by decide) : PRf X ct Wx (.Name x pos) (rOwn i) := by
  refine PE.fin (pe_var hN hv hd hcd) ?_
  rintro σ H Q l ⟨W0, H0, W, E, M, rel, p⟩
  dsimp only [rOwn] at p
  cases q : E[i]? with
  | none => rw [q] at p; exact p.elim
  | some sl =>
    cases sl with
    | un => rw [q] at p; exact p.elim
    | sh d => rw [q] at p; exact p.elim
    | ow c =>
      rw [q] at p
      obtain ⟨a, e, _⟩ := rel.slt i _ q
      exact ⟨_, e, fun l' => p W H _ Ext.refl rel e l'⟩
theorem pr_loc (h : PF X ct Wx e f) : PRf X ct Wx e (rLoc f) := by
  refine PE.fin h ?_
  rintro σ H Q l ⟨W0, H0, W, E, M, rel, p⟩
  refine ⟨W0, H0, W, E, M, rel, Post.bind p fun d1 M1 W1 H1 v1 _ x1 rel1 p1 l1 p => ?_⟩
  cases d1 with
  | loc k => exact fun _ => p W1 H1 v1 Ext.refl rel1 p1 l1
  | _ => exact p.elim

/-! ### cells are written -/
/-- behind a write -/
theorem up_end {W0 W : Wd} {H0 H : Hp} {σ : L2.St} {E : Env} {M : Mem} {D : Ends} {k : RK} {a : Addr} {c c' : Cell} {o' : HO} {u : Option Cell} (rel : Rel (Gx X ct) W0 H0 W σ H E M) (at' : RcvAt W σ E M a c k) (hu : u = some c') (new : CellOk (Gx X ct) W (upd H a o') a c') (l : LenOk (upd H a o'))
    (p : PostS (Gx X ct) Wx W0 H0 W H (upK k u E M) D) : (Dl D).nx σ (upd H a o') := by
  subst hu
  have q := at'.put rel new
  exact fun _ => p W σ _ (Ext0.put (at'.ok rel).1 (at'.ok rel).2) q l
theorem get_some {k : RK} {E : Env} {M : Mem} {op : Cell → Option Cell} {P : Prop} (hb : ∀ c c', k.get E M = some c → op c = some c' → P) (hn : (k.get E M).bind op = none → P) : P := by
  cases q : k.get E M with
  | none => exact hn (by rw [q]; rfl)
  | some c =>
    cases q2 : op c with
    | none => exact hn (by rw [q]; exact q2)
    | some c' => exact hb c c' q q2
theorem s_app (ho : PRf X ct Wx o r) (he : PF X ct Wx e f) (hb : attributeBase o "append" X.env (eval o X.env) = eval o X.env := by rfl)
    (hfew : ((backTo p (starEach [e] X.env)).all (fun x => !x.1) && (backToKw p (keywordEach [] X.env)).all (fun x => x.1.isSome) && decide ([e].length + ([] : List Keyword).length + (if ([] : List Keyword).isEmpty then 0 else 1) < 30)) = true := by rfl)
    (hline : (p'.endLine == p.line) = true := by rfl) (hs : starEach [e] X.env = (false, eval e X.env) :: starEach [] X.env := by rfl) (hw : swapsWith (.Call (.Attribute o "append" p') [e] [] p) none pos.line X.env = pure false := by rfl) :
    PSf X ct Wx (.Expr (.Call (.Attribute o "append" p') [e] [] p) pos) (sApp r f) := by
  refine PS_fin (ps_expr (pe_bm PySem.F.plainAttrs_list PySem.F.slot_list_append PySem.F.type_list_append mt_append ho (pa_cons he pa_nil hs) hb hfew hline hs rfl) hw) ?_
  rintro D σ H l ⟨W0, H0, W, E, M, rel, p⟩
  refine ⟨W0, H0, W, E, M, rel, PostS.bindG p fun k M1 W1 H1 v _ x1 rel1 r1 l1 p => ?_⟩
  cases g0 : k.get E M1 with
  | none => rw [g0] at p; exact p.elim
  | some c0 =>
    cases c0 with
    | lst ds0 =>
      rw [g0] at p
      obtain ⟨a0, rfl, at0⟩ := r1.at rel1 g0
      obtain ⟨⟨vs0, e0, _⟩, _⟩ := at0.ok rel1
      refine ⟨.inl ⟨rfl, _, SqL.of e0⟩, W0, H0, W1, E, M1, rel1, PostS.bindG p fun d M2 W2 H2 v2 _ x2 rel2 r2 l2 p => ?_⟩
      refine get_some (k := k) (E := E) (M := M2) (op := kApp d) (fun c c' g q => ?_) fun g => by rw [g] at p; exact p.elim
      obtain ⟨a, ea, at'⟩ := (r1.mono x2.toExt0).at rel2 g
      cases ea
      have hc := (at'.ok rel2).1
      have hz := (at'.ok rel2).2
      cases c with
      | lst ds =>
        have q0 := q
        dsimp only [kApp] at q
        split at q
        · rename_i hl
          cases q
          obtain ⟨vs, e, rv⟩ := id hc
          have hl' : vs.length < sizeLine := by rw [← rv.length]; exact hl
          have x := Ext0.put (o' := .lst (vs ++ [v2])) hc hz
          refine ⟨a0, vs, v2, rfl, rfl, e, hl', ?_⟩
          refine up_end (c' := .lst (ds ++ [d])) rel2 at' (by rw [g]; exact q0) ⟨vs ++ [v2], upd_same, (rv.mono x).append (.one (r2.mono x))⟩ (l2.upd (fun _ z => by cases z; rw [List.length_append]; exact hl') (fun _ z => nomatch z) fun _ _ z => nomatch z) p
        · cases q
      | _ => cases q
    | _ => rw [g0] at p; exact p.elim
theorem s_ext (ho : PRf X ct Wx o r) (he : PF X ct Wx e f) (hb : attributeBase o "extend" X.env (eval o X.env) = eval o X.env := by rfl)
    (hfew : ((backTo p (starEach [e] X.env)).all (fun x => !x.1) && (backToKw p (keywordEach [] X.env)).all (fun x => x.1.isSome) && decide ([e].length + ([] : List Keyword).length + (if ([] : List Keyword).isEmpty then 0 else 1) < 30)) = true := by rfl)
    (hline : (p'.endLine == p.line) = true := by rfl) (hs : starEach [e] X.env = (false, eval e X.env) :: starEach [] X.env := by rfl) (hw : swapsWith (.Call (.Attribute o "extend" p') [e] [] p) none pos.line X.env = pure false := by rfl) :
    PSf X ct Wx (.Expr (.Call (.Attribute o "extend" p') [e] [] p) pos) (sExt r f) := by
  refine PS_fin (ps_expr (pe_bm PySem.F.plainAttrs_list PySem.F.slot_list_extend PySem.F.type_list_extend mt_extend ho (pa_cons he pa_nil hs) hb hfew hline hs rfl) hw) ?_
  rintro D σ H l ⟨W0, H0, W, E, M, rel, p⟩
  refine ⟨W0, H0, W, E, M, rel, PostS.bindG p fun k M1 W1 H1 v _ x1 rel1 r1 l1 p => ?_⟩
  cases g0 : k.get E M1 with
  | none => rw [g0] at p; exact p.elim
  | some c0 =>
    cases c0 with
    | lst ds0 =>
      rw [g0] at p
      obtain ⟨a0, rfl, at0⟩ := r1.at rel1 g0
      obtain ⟨⟨vs0, e0, _⟩, _⟩ := at0.ok rel1
      refine ⟨.inl ⟨rfl, _, SqL.of e0⟩, W0, H0, W1, E, M1, rel1, PostS.bindG p fun d M2 W2 H2 v2 _ x2 rel2 r2 l2 p => ?_⟩
      cases r2 with
      | @lst b zs es z hb rz =>
        refine get_some (k := k) (E := E) (M := M2) (op := kExt es) (fun c c' g q => ?_) fun g => by dsimp only at p; rw [g] at p; exact p.elim
        obtain ⟨a, ea, at'⟩ := (r1.mono x2.toExt0).at rel2 g
        cases ea
        have hc := (at'.ok rel2).1
        have hz := (at'.ok rel2).2
        cases c with
        | lst ds =>
          have q0 := q
          dsimp only [kExt] at q
          split at q
          · rename_i hl
            cases q
            obtain ⟨vs, e, rv⟩ := id hc
            have hl' : vs.length + zs.length ≤ sizeLine := by rw [← rv.length, ← rz.length]; exact hl
            have x := Ext0.put (o' := .lst (vs ++ zs)) hc hz
            refine ⟨a0, b, vs, zs, rfl, rfl, e, hb, hl', ?_⟩
            refine up_end (c' := .lst (ds ++ es)) rel2 at' (by rw [g]; exact q0) ⟨vs ++ zs, upd_same, (rv.mono x).append (rz.mono x)⟩ (l2.upd (fun _ z => by cases z; rw [List.length_append]; exact hl') (fun _ z => nomatch z) fun _ _ z => nomatch z) p
          · cases q
        | _ => cases q
      | _ => exact p.elim
    | _ => rw [g0] at p; exact p.elim
theorem s_setL (ho : PRf X ct Wx o r) (hi : PF X ct Wx ei fi) (hv : PF X ct Wx e f) (hs : swapsWithSole [.Subscript o ei p'] e pos.line X.env = pure false := by rfl) (hw : swappedStores [.Subscript o ei p'] e X.env = pure none := by rfl)
    (h1 : (assignEach [.Subscript o ei p'] X.env).map (·.2) = [assign (.Subscript o ei p') X.env] := by rfl)
    (ha : ∀ v, assign (.Subscript o ei p') X.env v = (do
      let ov ← holding [v] (eval o X.env)
      let iv ← holding [v, ov] (eval ei X.env)
      standAt p'
      holding [v, ov, iv] (setItem ov iv v)
      release [v, ov, iv] []) := by intro _; rfl) : PSf X ct Wx (.Assign [.Subscript o ei p'] e pos) (sSetL r fi f) := by
  refine PS_fin (ps_asg hv (pg_sub ho hi set_list ha) hs hw h1) ?_
  rintro D σ H l ⟨W0, H0, W, E, M, rel, p⟩
  refine ⟨W0, H0, W, E, M, rel, PostS.bindG p fun d M1 W1 H1 v _ x1 rel1 r1 l1 p => ?_⟩
  refine ⟨W0, H0, W1, E, M1, rel1, PostS.bindG p fun k M2 W2 H2 u _ x2 rel2 r2 l2 p => ?_⟩
  refine ⟨W0, H0, W2, E, M2, rel2, PostS.bindG p fun i M3 W3 H3 w _ x3 rel3 r3 l3 p => ?_⟩
  refine get_some (k := k) (E := E) (M := M3) (op := kSetL i d) (fun c c' g q => ?_) fun g => by rw [g] at p; exact p.elim
  obtain ⟨a, rfl, at'⟩ := (r2.mono x3.toExt0).at rel3 g
  have hc := (at'.ok rel3).1
  have hz := (at'.ok rel3).2
  have rv := (r1.mono x2.toExt0).mono x3.toExt0
  cases c with
  | lst ds =>
    cases r3 with
    | int n =>
      have q0 := q
      dsimp only [kSetL] at q
      cases q1 : ixN ds.length n with
      | none => rw [q1] at q; cases q
      | some j =>
        rw [q1] at q
        cases q
        obtain ⟨vs, e, rs⟩ := id hc
        have x := Ext0.put (o' := .lst (vs.set j v)) hc hz
        refine ⟨a, vs, n, j, rfl, rfl, e, by rw [← rs.length]; exact q1, ?_⟩
        exact up_end (c' := .lst (ds.set j d)) rel3 at' (by rw [g]; exact q0) ⟨vs.set j v, upd_same, (rs.mono x).set (rv.mono x) j⟩ (l3.upd (fun _ z => by cases z; rw [List.length_set]; exact l3.1 _ _ (.inl e)) (fun _ z => nomatch z) fun _ _ z => nomatch z) p
    | _ => cases q
  | _ => cases q

theorem reps_put {G : Gm} {W : Wd} {H : Hp} {κ : Type} [DecidableEq κ] {k : κ} {d : D} {v : V} (rv : Rep G W H d v) {kvs : List (κ × D)} {vs : List (κ × V)} (e : vs.map (·.1) = kvs.map (·.1)) (r : Reps G W H (kvs.map (·.2)) (vs.map (·.2))) :
    (putK vs k v).map (·.1) = (put kvs k d).map (·.1) ∧ Reps G W H ((put kvs k d).map (·.2)) ((putK vs k v).map (·.2)) := by
  have ea : (vs.any fun kv => decide (kv.1 = k)) = kvs.any fun kv => decide (kv.1 = k) := by
    have h : ∀ {β : Type} (l : List (κ × β)), (l.any fun kv => decide (kv.1 = k)) = (l.map (·.1)).any fun x => decide (x = k) := fun l => by rw [List.any_map]; rfl
    rw [h, h, e]
  unfold putK put
  rw [ea]
  by_cases c : (kvs.any fun kv => decide (kv.1 = k)) = true
  · rw [if_pos c, if_pos c]
    have go : ∀ (kvs : List (κ × D)) (vs : List (κ × V)), vs.map (·.1) = kvs.map (·.1) → Reps G W H (kvs.map (·.2)) (vs.map (·.2)) →
        (vs.map fun kv => if kv.1 = k then (kv.1, v) else kv).map (·.1) = (kvs.map fun kv => if kv.1 = k then (kv.1, d) else kv).map (·.1) ∧ Reps G W H ((kvs.map fun kv => if kv.1 = k then (kv.1, d) else kv).map (·.2)) ((vs.map fun kv => if kv.1 = k then (kv.1, v) else kv).map (·.2)) := by
      intro kvs
      induction kvs with
      | nil =>
        intro vs e r
        cases vs with
        | nil => exact ⟨rfl, .nil⟩
        | cons _ _ => cases e
      | cons kv kvs ih =>
        intro vs e r
        cases vs with
        | nil => cases e
        | cons w vs =>
          rw [List.map_cons, List.map_cons] at e
          injection e with e1 e2
          have r : Reps G W H (kv.2 :: kvs.map (·.2)) (w.2 :: vs.map (·.2)) := r
          cases r with
          | cons h t =>
            obtain ⟨i1, i2⟩ := ih vs e2 t
            by_cases q : kv.1 = k
            · have q' : w.1 = k := by rw [e1]; exact q
              simp only [List.map_cons, q, q', if_true]
              exact ⟨by rw [i1], .cons rv i2⟩
            · have q' : ¬ w.1 = k := by rw [e1]; exact q
              simp only [List.map_cons, q, q', if_false]
              exact ⟨by rw [i1, e1], .cons h i2⟩
    exact go kvs vs e r
  · rw [if_neg c, if_neg c, List.map_append, List.map_append, List.map_append, List.map_append, e]
    exact ⟨rfl, r.append (.one rv)⟩
theorem keyOf_rep {G : Gm} {W : Wd} {H : Hp} {d : D} {k : Key} {v : V} (r : Rep G W H d v) (h : keyOf d = some k) : v = kV k := rep_key r h

theorem s_put (hu : X.A.units + 1 < cLine) (ho : PRf X ct Wx o r) (hi : PF X ct Wx ei fi) (hv : PF X ct Wx e f) (hs : swapsWithSole [.Subscript o ei p'] e pos.line X.env = pure false := by rfl) (hw : swappedStores [.Subscript o ei p'] e X.env = pure none := by rfl)
    (h1 : (assignEach [.Subscript o ei p'] X.env).map (·.2) = [assign (.Subscript o ei p') X.env] := by rfl)
    (ha : ∀ v, assign (.Subscript o ei p') X.env v = (do
      let ov ← holding [v] (eval o X.env)
      let iv ← holding [v, ov] (eval ei X.env)
      standAt p'
      holding [v, ov, iv] (setItem ov iv v)
      release [v, ov, iv] []) := by intro _; rfl) : PSf X ct Wx (.Assign [.Subscript o ei p'] e pos) (sPut r fi f) := by
  refine PS_fin (ps_asg hv (pg_sub ho hi (set_dict hu) ha) hs hw h1) ?_
  rintro D σ H l ⟨W0, H0, W, E, M, rel, p⟩
  refine ⟨W0, H0, W, E, M, rel, PostS.bindG p fun d M1 W1 H1 v _ x1 rel1 r1 l1 p => ?_⟩
  refine ⟨W0, H0, W1, E, M1, rel1, PostS.bindG p fun k M2 W2 H2 u _ x2 rel2 r2 l2 p => ?_⟩
  refine ⟨W0, H0, W2, E, M2, rel2, PostS.bindG p fun i M3 W3 H3 w _ x3 rel3 r3 l3 p => ?_⟩
  refine get_some (k := k) (E := E) (M := M3) (op := kPut i d) (fun c c' g q => ?_) fun g => by rw [g] at p; exact p.elim
  obtain ⟨a, rfl, at'⟩ := (r2.mono x3.toExt0).at rel3 g
  have hc := (at'.ok rel3).1
  have hz := (at'.ok rel3).2
  have rv := (r1.mono x2.toExt0).mono x3.toExt0
  cases c with
  | dK kvs =>
    have q0 := q
    dsimp only [kPut] at q
    split at q
    · rename_i hl
      cases q1 : keyOf i with
      | none => rw [q1] at q; cases q
      | some key =>
        rw [q1] at q
        cases q
        obtain ⟨vs, e, ek, rs⟩ := id hc
        have hl' : vs.length < sizeLine := by
          have := congrArg List.length ek
          rw [List.length_map, List.length_map] at this
          rw [this]; exact hl
        have ew := rep_key r3 q1
        subst ew
        have x := Ext0.put (o' := .dK (putK vs key v)) hc hz
        obtain ⟨p1, p2⟩ := reps_put (k := key) (rv.mono x) ek (rs.mono x)
        refine ⟨a, _, rfl, .k e hl', ?_⟩
        exact up_end (c' := .dK (put kvs key d)) rel3 at' (by rw [g]; exact q0) ⟨putK vs key v, upd_same, p1, p2⟩ (l3.upd (fun _ z => nomatch z) (fun _ z => nomatch z) fun _ _ z => nomatch z) p
    · cases q
  | dT kvs =>
    have q0 := q
    cases r3 with
    | @tup b us ks hb rb =>
      dsimp only [kPut] at q
      split at q
      · rename_i hl
        cases q1 : keysOf ks with
        | none => rw [q1] at q; cases q
        | some key =>
          rw [q1] at q
          cases q
          obtain ⟨vs, e, ek, rs⟩ := id hc
          have hl' : vs.length < sizeLine := by
            have := congrArg List.length ek
            rw [List.length_map, List.length_map] at this
            rw [this]; exact hl
          have ew := reps_keys rb q1
          subst ew
          have x := Ext0.put (o' := .dT (putK vs key v)) hc hz
          obtain ⟨p1, p2⟩ := reps_put (k := key) (rv.mono x) ek (rs.mono x)
          refine ⟨a, _, rfl, .t e hb hl', ?_⟩
          exact up_end (c' := .dT (put kvs key d)) rel3 at' (by rw [g]; exact q0) ⟨putK vs key v, upd_same, p1, p2⟩ (l3.upd (fun _ z => nomatch z) (fun _ z => nomatch z) fun _ _ z => nomatch z) p
      · cases q
    | _ => cases q
  | _ => cases q

theorem putF_set {f : Str} {v : V} : ∀ {vs : List (Str × V)} {ns : List Str} {j : Nat}, vs.map (·.1) = ns → ns.Nodup → ns[j]? = some f → (putF f v vs).map (·.1) = ns ∧ (putF f v vs).map (·.2) = (vs.map (·.2)).set j v
  | [], _, _, e, _, h => by subst e; simp at h
  | p :: vs, [], _, e, _, _ => by cases e
  | (g, w) :: vs, n :: ns, 0, e, _, h => by
    injection e with e1 e2
    simp at h
    have e1 : g = n := e1
    subst h e1
    unfold putF
    rw [if_pos rfl]
    exact ⟨by simp [e2], by simp⟩
  | (g, w) :: vs, n :: ns, j + 1, e, nd, h => by
    injection e with e1 e2
    have e1 : g = n := e1
    have h : ns[j]? = some f := by simpa using h
    have ne : ¬ g = f := fun z => (List.nodup_cons.mp nd).1 (by rw [← e1, z]; exact List.mem_of_getElem? h)
    unfold putF
    rw [if_neg ne]
    obtain ⟨i1, i2⟩ := putF_set (v := v) e2 (List.nodup_cons.mp nd).2 h
    exact ⟨by rw [List.map_cons, i1, e1], by rw [List.map_cons, List.map_cons, List.set_cons_succ, i2]⟩
theorem putF_new {f : Str} {v : V} : ∀ {vs : List (Str × V)}, f ∉ vs.map (·.1) → putF f v vs = vs ++ [(f, v)]
  | [], _ => rfl
  | (g, w) :: vs, h => by
    have ne : ¬ g = f := fun z => h (by rw [List.map_cons]; exact List.mem_cons.mpr (.inl z.symm))
    unfold putF
    rw [if_neg ne, putF_new fun z => h (by rw [List.map_cons]; exact List.mem_cons.mpr (.inr z))]
    rfl
theorem s_fld {fx : Str} (n j : Nat) (hC : ClsX X.K X.mg ct n) (ho : PRf X ct Wx o r) (hv : PF X ct Wx e f) (hj : (ct[n]?.bind fun p => p.2[j]?) = some fx := by rfl) (hs : swapsWith e (some (.Attribute o fx p')) pos.line X.env = pure false := by rfl) :
    PSf X ct Wx (.Assign [.Attribute o fx p'] e pos) (sFld n j r f) := by
  obtain ⟨nm, ns, C, h1, h2, cl, nd, hlen, no⟩ := hC.ex
  rw [h1] at hj
  have hj : ns[j]? = some fx := hj
  refine PS_fin (ps_fld ho hv hs) ?_
  rintro D σ H l ⟨W0, H0, W, E, M, rel, p⟩
  refine ⟨W0, H0, W, E, M, rel, PostS.bindG p fun d M1 W1 H1 v _ x1 rel1 r1 l1 p => ?_⟩
  refine ⟨W0, H0, W1, E, M1, rel1, PostS.bindG p fun k M2 W2 H2 u _ x2 rel2 r2 l2 p => ?_⟩
  refine get_some (k := k) (E := E) (M := M2) (op := kFld n j d) (fun c c' g q => ?_) fun g => by rw [g] at p; exact p.elim
  obtain ⟨a, rfl, at'⟩ := r2.at rel2 g
  have hc := (at'.ok rel2).1
  have hz := (at'.ok rel2).2
  have rv := r1.mono x2.toExt0
  cases c with
  | ins cn ds =>
    have q0 := q
    dsimp only [kFld] at q
    split at q
    · rename_i ec
      subst ec
      obtain ⟨nm', ns', C', dx, vs, t1, t2, e, ek, rs⟩ := id hc
      have t1 : ct[cn]? = some (nm', ns') := t1
      rw [h1] at t1
      cases t1
      rw [show (Gx X ct).mg = X.mg from rfl, h2] at t2
      cases t2
      have hvl : vs.length = (ns.take ds.length).length := by rw [← ek, List.length_map]
      have hv1000 : vs.length < 1000 := by
        rw [hvl, List.length_take]; omega
      have x := Ext0.put (o' := .ins C dx (putF fx v vs)) hc hz
      refine ⟨a, C, dx, vs, rfl, e, cl, no _ (List.mem_of_getElem? hj), hv1000, ?_⟩
      split at q
      · rename_i hlt
        cases q
        obtain ⟨p1, p2⟩ := putF_set (v := v) ek (nd.sublist (List.take_sublist _ _)) (by rw [List.getElem?_take_of_lt hlt]; exact hj)
        refine up_end (c' := .ins cn (ds.set j d)) rel2 at' (by rw [g]; exact q0) ⟨nm, ns, C, dx, _, h1, h2, upd_same, by rw [List.length_set]; exact p1, by rw [p2]; exact (rs.mono x).set (rv.mono x) j⟩ (l2.upd (fun _ z => nomatch z) (fun _ z => nomatch z) fun _ _ z => nomatch z) p
      · split at q
        · rename_i hnl hle
          cases q
          subst hle
          have hnew : fx ∉ vs.map (·.1) := by
            rw [ek]
            intro hm
            obtain ⟨i, hi, e1⟩ := List.getElem_of_mem hm
            rw [List.length_take] at hi
            rw [List.getElem_take] at e1
            obtain ⟨hjl, e2⟩ := List.getElem?_eq_some_iff.mp hj
            have := (List.getElem_inj nd).mp (e1.trans e2.symm)
            omega
          have ep := putF_new (v := v) hnew
          refine up_end (c' := .ins cn (ds ++ [d])) rel2 at' (by rw [g]; exact q0) ⟨nm, ns, C, dx, _, h1, h2, upd_same, ?_, ?_⟩ (l2.upd (fun _ z => nomatch z) (fun _ z => nomatch z) fun _ _ z => nomatch z) p
          · rw [ep, List.map_append, ek, List.length_append, List.length_singleton, List.take_add_one, hj]
            rfl
          · have := (rs.mono x).append (.one (rv.mono x))
            have e2 : (putF fx v vs).map (·.2) = vs.map (·.2) ++ [v] := by rw [ep, List.map_append]; rfl
            rw [e2]
            exact this
        · cases q
    · cases q
  | _ => cases q
end
end J
namespace J
open PySem PySem.Spec L2 PyProof.Rows

section
variable {G : Gm} {Wx : WX} {W0 W W1 W' : Wd} {H0 H H1 H' : Hp} {σ : L2.St} {E : Env} {M M1 M' : Mem} {d : D} {v : V} {ds : List D} {a : Addr}
mutual
theorem Rep.isLow : ∀ {d : D} {v : V}, Rep G W H d v → lowD W.phi.length d = true
  | _, _, .non => rfl
  | _, _, .bl b => rfl
  | _, _, .int i => rfl
  | _, _, .str s => rfl
  | _, _, .tup h r => Reps.isLow r
  | _, _, .lst z h r => Reps.isLow r
  | _, _, .scr h r => Reps.isLow r
  | _, _, .dK (ds := ds) z h k r => by
    have q := Reps.isLow r
    show lowK _ ds = true
    clear k h z r
    induction ds with
    | nil => rfl
    | cons p ds ih =>
      obtain ⟨k, d⟩ := p
      have q : (lowD W.phi.length d && lowDs W.phi.length (ds.map (·.2))) = true := q
      rw [Bool.and_eq_true] at q
      show (lowD W.phi.length d && lowK W.phi.length ds) = true
      rw [q.1, ih q.2]; rfl
  | _, _, .dT (ds := ds) z h k r => by
    have q := Reps.isLow r
    show lowT _ ds = true
    clear k h z r
    induction ds with
    | nil => rfl
    | cons p ds ih =>
      obtain ⟨k, d⟩ := p
      have q : (lowD W.phi.length d && lowDs W.phi.length (ds.map (·.2))) = true := q
      rw [Bool.and_eq_true] at q
      show (lowD W.phi.length d && lowT W.phi.length ds) = true
      rw [q.1, ih q.2]; rfl
  | _, _, .obj z t c h k r => Reps.isLow r
  | _, _, .loc h => decide_eq_true (List.getElem?_eq_some_iff.mp h).1
  | _, _, .fn h => rfl
  | _, _, .ty n => rfl
theorem Reps.isLow : ∀ {ds : List D} {vs : List V}, Reps G W H ds vs → lowDs W.phi.length ds = true
  | _, _, .nil => rfl
  | _, _, .cons (d := d) (ds := ds) h t => by
    show (lowD W.phi.length d && lowDs W.phi.length ds) = true
    rw [Rep.isLow h, Reps.isLow t]; rfl
end
theorem lowK_iff {n : Nat} : ∀ {kvs : List (Key × D)}, lowK n kvs = lowDs n (kvs.map (·.2))
  | [] => rfl
  | (k, d) :: r => by
    show (lowD n d && lowK n r) = (lowD n d && lowDs n (r.map (·.2)))
    rw [lowK_iff]
theorem lowT_iff {n : Nat} : ∀ {kvs : List (List Key × D)}, lowT n kvs = lowDs n (kvs.map (·.2))
  | [] => rfl
  | (k, d) :: r => by
    show (lowD n d && lowT n r) = (lowD n d && lowDs n (r.map (·.2)))
    rw [lowT_iff]
mutual
theorem Rep.cut {more : List Addr} (hp : W'.phi = W.phi ++ more) : ∀ {d : D} {v : V}, Rep G W' H d v → lowD W.phi.length d = true → Rep G ⟨W.phi, W'.Z⟩ H d v
  | _, _, .non, _ => .non
  | _, _, .bl b, _ => .bl b
  | _, _, .int i, _ => .int i
  | _, _, .str s, _ => .str s
  | _, _, .tup h r, l => .tup h (Reps.cut hp r l)
  | _, _, .lst z h r, l => .lst z h (Reps.cut hp r l)
  | _, _, .scr h r, l => .scr h (Reps.cut hp r l)
  | _, _, .dK z h k r, l => .dK z h k (Reps.cut hp r (by rw [← lowK_iff]; exact l))
  | _, _, .dT z h k r, l => .dT z h k (Reps.cut hp r (by rw [← lowT_iff]; exact l))
  | _, _, .obj z t c h k r, l => .obj z t c h k (Reps.cut hp r l)
  | _, _, .loc h, l => .loc (by
    have l := of_decide_eq_true l
    rw [hp, List.getElem?_append_left l] at h
    exact h)
  | _, _, .fn h, _ => .fn h
  | _, _, .ty n, _ => .ty n
theorem Reps.cut {more : List Addr} (hp : W'.phi = W.phi ++ more) : ∀ {ds : List D} {vs : List V}, Reps G W' H ds vs → lowDs W.phi.length ds = true → Reps G ⟨W.phi, W'.Z⟩ H ds vs
  | _, _, .nil, _ => .nil
  | _, _, .cons (d := d) (ds := ds) h t, l => by
    have l : (lowD W.phi.length d && lowDs W.phi.length ds) = true := l
    rw [Bool.and_eq_true] at l
    exact .cons (Rep.cut hp h l.1) (Reps.cut hp t l.2)
end
theorem CellOk.cut {more : List Addr} {c : Cell} (hp : W'.phi = W.phi ++ more) (l : lowC W.phi.length c = true) (h : CellOk G W' H a c) : CellOk G ⟨W.phi, W'.Z⟩ H a c := by
  cases c with
  | lst ds => obtain ⟨vs, q, r⟩ := h; exact ⟨vs, q, r.cut hp l⟩
  | dK ds => obtain ⟨vs, q, k, r⟩ := h; exact ⟨vs, q, k, r.cut hp (by rw [← lowK_iff]; exact l)⟩
  | dT ds => obtain ⟨vs, q, k, r⟩ := h; exact ⟨vs, q, k, r.cut hp (by rw [← lowT_iff]; exact l)⟩
  | ins c ds => obtain ⟨nm, ns, C, dx, vs, ht, hc, q, k, r⟩ := h; exact ⟨nm, ns, C, dx, vs, ht, hc, q, k, r.cut hp l⟩
theorem CellOk.isLow {c : Cell} (h : CellOk G W H a c) : lowC W.phi.length c = true := by
  cases c with
  | lst ds => obtain ⟨vs, q, r⟩ := h; exact r.isLow
  | dK ds => obtain ⟨vs, q, k, r⟩ := h; show lowK _ ds = true; rw [lowK_iff]; exact r.isLow
  | dT ds => obtain ⟨vs, q, k, r⟩ := h; show lowT _ ds = true; rw [lowT_iff]; exact r.isLow
  | ins c ds => obtain ⟨nm, ns, C, dx, vs, ht, hc, q, k, r⟩ := h; exact r.isLow
theorem okM_at {n : Nat} : ∀ {M M' : Mem}, okM n M M' = true → M.length = M'.length ∧ ∀ (l : Nat) (c' : Cell), M'[l]? = some c' → (∃ c, M[l]? = some c ∧ c.tree = c'.tree) ∨ lowC n c' = true
  | [], [], _ => ⟨rfl, fun l c' h => by simp at h⟩
  | [], _ :: _, h => by cases h
  | _ :: _, [], h => by cases h
  | c :: M, c2 :: M', h => by
    have h : ((sameD c.tree c2.tree || lowC n c2) && okM n M M') = true := h
    rw [Bool.and_eq_true, Bool.or_eq_true] at h
    obtain ⟨i1, i2⟩ := okM_at h.2
    refine ⟨by rw [List.length_cons, List.length_cons, i1], fun l c' q => ?_⟩
    cases l with
    | zero =>
      have q : c2 = c' := by simpa using q
      subst q
      rcases h.1 with z | z
      · exact .inl ⟨c, by simp, sameD_eq _ _ z⟩
      · exact .inr z
    | succ l =>
      have q : M'[l]? = some c' := by simpa using q
      rcases i2 l c' q with ⟨c0, z1, z2⟩ | z
      · exact .inl ⟨c0, by simpa using z1, z2⟩
      · exact .inr z
/-- the cells that are new are forgotten -/
theorem CRel.cut (c : CRel G W H M) (x : Ext W H W' H') (c' : CRel G W' H' M') (h : okM M.length M (M'.take M.length) = true) :
    Ext W H ⟨W.phi, W'.Z⟩ H' ∧ CRel G ⟨W.phi, W'.Z⟩ H' (M'.take M.length) := by
  obtain ⟨more, hp⟩ := x.ph
  obtain ⟨e1, e2⟩ := okM_at h
  have hz := x.toExt0
  refine ⟨⟨⟨⟨⟨[], by simp⟩, hz.z, hz.rd, hz.ls, hz.fz, hz.tp, hz.ob⟩, hz.fd⟩, fun a h => .inl h, x.zn, x.keep⟩, ⟨by rw [← e1]; exact c.len, fun l cl a h1 h2 => ?_, ?_, fun a ha => ?_, c'.zs⟩⟩
  · have hl : l < M.length := by rw [e1]; exact (List.getElem?_eq_some_iff.mp h1).1
    have hl' : l < W.phi.length := by rw [c.len]; exact hl
    have h1' : M'[l]? = some cl := by rw [← h1, List.getElem?_take_of_lt hl]
    have ok := c'.cel l cl a h1' (by rw [hp, List.getElem?_append_left hl']; exact h2)
    refine ok.cut hp ?_
    rw [c.len]
    rcases e2 l cl h1 with ⟨c0, q1, q2⟩ | q
    · have := (c.cel l c0 a q1 h2).isLow
      unfold lowC at this ⊢
      rw [← q2, ← c.len]; exact this
    · exact q
  · have := c'.nd
    rw [hp] at this
    exact (List.nodup_append.mp this).1
  · exact c'.sep a (by rw [hp]; exact List.mem_append_left _ ha)
end

/-! ### a def by its function -/
def spF (G : Gm) (n : Nat) (F : Fn) : Sp := fun vs H Q E => ∃ W M ds, CRel G W H M ∧ Reps G W H ds vs ∧ ds.length = n ∧ match F ds M with
  | .ok d M' => ∀ W' H' v, Ext W H W' H' → CRel G W' H' M' → Rep G W' H' d v → LenOk H' → Q v H'
  | .exc c es M' => ∀ W' H' C o, Ext W H W' H' → CRel G W' H' M' → ExcOk G W' H' c es C o → LenOk H' → E (.ref C) o H'
  | .bad => False
theorem spF_scp {G : Gm} {n : Nat} {F : Fn} {vs : List V} {H : Hp} {Q : VK} {E : XK} (h : spF G n (scp F) vs H Q E) : spF G n F vs H Q E := by
  obtain ⟨W, M, ds, c, r, hl, h⟩ := h
  refine ⟨W, M, ds, c, r, hl, ?_⟩
  unfold scp at h
  cases q : F ds M with
  | bad => rw [q] at h; exact h
  | ok d M' =>
    rw [q] at h
    dsimp only at h
    by_cases hk : (lowD M.length d && okM M.length M (M'.take M.length)) = true
    · rw [if_pos hk] at h
      rw [Bool.and_eq_true] at hk
      intro W' H' v x c' rv l
      obtain ⟨x2, c2⟩ := c.cut x c' hk.2
      obtain ⟨more, hp⟩ := x.ph
      exact h _ H' v x2 c2 (rv.cut hp (by rw [c.len]; exact hk.1)) l
    · rw [if_neg hk] at h
      exact h.elim
  | exc cn es M' =>
    rw [q] at h
    dsimp only at h
    by_cases hk : (lowDs M.length es && okM M.length M (M'.take M.length)) = true
    · rw [if_pos hk] at h
      rw [Bool.and_eq_true] at hk
      intro W' H' C o x c' rv l
      obtain ⟨x2, c2⟩ := c.cut x c' hk.2
      obtain ⟨more, hp⟩ := x.ph
      obtain ⟨nm, ns, h1, h2, h3⟩ := rv
      refine h _ H' C o x2 c2 ⟨nm, ns, h1, h2, ?_⟩ l
      rcases h3 with h3 | ⟨dx, us, e1, e2, e3, e4⟩
      · exact .inl h3
      · exact .inr ⟨dx, us, e1, e2, e3, e4.cut hp (by rw [c.len]; exact hk.1)⟩
    · rw [if_neg hk] at h
      exact h.elim

section
variable {P : Program} {w : World} {K : PySem.W.Frag} {mg : Str → Option Value} {base : Heap} {ct : List (Str × List Str)} {k j : Nat} {x : Str} {n : Nat} {F : Fn}
/-- a def of the module does what F does -/
structure DefOk (P : Program) (w : World) (K : PySem.W.Frag) (mg : Str → Option Value) (base : Heap) (ct : List (Str × List Str)) (k : Nat) (x : Str) (n : Nat) (F : Fn) : Prop where
  ex : ∃ f fd ps, mg x = some (.ref f) ∧ PySem.W.keepIn K (.ref f) = true ∧ Binds K fd ps [] ∧ FnOk P w K mg base (L2.CX P w) k f fd ps (spF ⟨K, mg, ct⟩ n F)
/-- a method of the class with the number c -/
structure MetOk (P : Program) (w : World) (K : PySem.W.Frag) (mg : Str → Option Value) (base : Heap) (ct : List (Str × List Str)) (k c : Nat) (x : Str) (n : Nat) (F : Fn) : Prop where
  ex : ∃ nm ns C f fd ps, ct[c]? = some (nm, ns) ∧ mg nm = some (.ref C) ∧ Cls K C ∧ x ∉ ns ∧ Meth K C x f ∧ Binds K fd ps [] ∧ FnOk P w K mg base (L2.CX P w) k f fd ps (spF ⟨K, mg, ct⟩ n F)
/-- .. its __init__ -/
structure IniOk (P : Program) (w : World) (K : PySem.W.Frag) (mg : Str → Option Value) (base : Heap) (ct : List (Str × List Str)) (k c : Nat) (nm : Str) (n : Nat) (F : Fn) : Prop where
  ex : ∃ ns C f fd ps, ct[c]? = some (nm, ns) ∧ mg nm = some (.ref C) ∧ Mk K C f ∧ Binds K fd ps [] ∧ FnOk P w K mg base (L2.CX P w) k f fd ps (spF ⟨K, mg, ct⟩ n F)
theorem DefOk.mono (h : DefOk P w K mg base ct j x n F) (hk : j ≤ k) : DefOk P w K mg base ct k x n F := by
  obtain ⟨f, fd, ps, h1, h2, h3, h4⟩ := h.ex
  exact ⟨f, fd, ps, h1, h2, h3, h4.mono hk⟩
theorem MetOk.mono {c : Nat} (h : MetOk P w K mg base ct j c x n F) (hk : j ≤ k) : MetOk P w K mg base ct k c x n F := by
  obtain ⟨nm, ns, C, f, fd, ps, h1, h2, h3, h4, h5, h6, h7⟩ := h.ex
  exact ⟨nm, ns, C, f, fd, ps, h1, h2, h3, h4, h5, h6, h7.mono hk⟩
theorem IniOk.mono {c : Nat} (h : IniOk P w K mg base ct j c x n F) (hk : j ≤ k) : IniOk P w K mg base ct k c x n F := by
  obtain ⟨ns, C, f, fd, ps, h1, h2, h3, h4, h5⟩ := h.ex
  exact ⟨ns, C, f, fd, ps, h1, h2, h3, h4, h5.mono hk⟩

/-- THE RULE for a def -/
theorem rel_start {G : Gm} {W : Wd} {H : Hp} {M : Mem} {ds : List D} {vs : List V} {N : List Str} {n np : Nat} (c : CRel G W H M) (r : Reps G W H ds vs) (hl : ds.length = np) (hn : N.length = n) (hle : np ≤ n) :
    Rel G W H W (L2.start N vs) H (ds.map Sl.sh ++ List.replicate (n - np) Sl.un) M := by
  have hv : vs.length = np := by rw [← r.length]; exact hl
  refine ⟨c, Ext.refl, fun i s hs => ?_, ?_, fun i j c1 c2 a h1 h2 h3 h4 => ?_⟩
  · by_cases q : i < ds.length
    · rw [List.getElem?_append_left (by rw [List.length_map]; exact q), List.getElem?_map] at hs
      obtain ⟨d, h1, h2⟩ := Option.map_eq_some_iff.mp hs
      subst h2
      obtain ⟨v, h3, h4⟩ := r.get h1
      refine ⟨v, ?_, h4⟩
      unfold L2.start
      rw [List.getElem?_append_left (by rw [List.length_map, ← r.length]; exact q), List.getElem?_map, h3]
      rfl
    · rw [List.getElem?_append_right (by rw [List.length_map]; exact Nat.le_of_not_lt q)] at hs
      have : s = .un := by
        rw [List.getElem?_replicate] at hs
        split at hs
        · exact (Option.some.inj hs).symm
        · cases hs
      subst this
      exact True.intro
  · unfold L2.start
    rw [List.length_append, List.length_append, List.length_map, List.length_map, List.length_replicate, List.length_replicate, r.length, hv, hn]
  · exfalso
    by_cases q : i < ds.length
    · rw [List.getElem?_append_left (by rw [List.length_map]; exact q), List.getElem?_map] at h1
      obtain ⟨d, _, e⟩ := Option.map_eq_some_iff.mp h1
      cases e
    · rw [List.getElem?_append_right (by rw [List.length_map]; exact Nat.le_of_not_lt q), List.getElem?_replicate] at h1
      split at h1 <;> cases h1
theorem ok_body {x qual : Str} {st : Stmt} {f : Addr} {fd : FuncData} {N ps : List Str} {np : Nat} {s : CS} (F : Fun K x qual st f fd) (S : FnScope N ps (defScope st)) (hn : N.length = n) (hp : ps.length = np) (hle : np ≤ n)
    (h : ∀ (cdv : Value) (A : Around) (outer : List PySem.Env) (s0 : Shared) (H : Hp) (E : XK), Room k (A.deeper (envOfC qual (defScope st) s0.heap.objs.size f cdv)) →
      PSsf (cxOf (L2.CX P w) P w K mg base N qual (defScope st) f cdv A outer s0 H E) ct (fun cls d _ H => E cls d H) (defBody st) s) : FnOk P w K mg base (L2.CX P w) (k + 1) f fd ps (spF ⟨K, mg, ct⟩ np (J.body n np s)) := by
  refine F.okX S (fun vs H Q E h => ?_) (fun cdv A outer s0 H vs Q E hr hsp => ?_)
  · obtain ⟨W, M, ds, c, r, hl, _⟩ := h
    rw [← r.length, hl, hp]
  · obtain ⟨W, M, ds, c, r, hl, hh⟩ := hsp
    refine ⟨_, h cdv A outer s0 H E hr, W, H, W, _, M, rel_start c r hl hn hle, ?_⟩
    unfold J.body at hh
    rw [if_pos hl] at hh
    cases q : s (ds.map Sl.sh ++ List.replicate (n - np) Sl.un) M with
    | bad => rw [q] at hh; exact hh
    | exc cn es M' => rw [q] at hh; exact hh
    | ok a M' =>
      rw [q] at hh
      obtain ⟨fl, E'⟩ := a
      cases fl with
      | nx => exact fun W' σ' H' x rel l => hh W' H' _ rel.ext rel.toCRel .non l
      | bk => exact hh.elim
      | ct => exact hh.elim
      | rt d => exact fun W' σ' H' x rel l v rv => hh W' H' v rel.ext rel.toCRel rv l
      | ex cn es => exact fun W' σ' H' x rel l C o he => hh W' H' C o rel.ext rel.toCRel he l
end
end J
namespace J
open PySem PySem.Spec L2 PyProof.Rows

section
variable {G : Gm} {Wx : WX} {W0 W W1 W' : Wd} {H0 H H1 H' : Hp} {σ : L2.St} {E : Env} {M M1 M' : Mem} {d : D} {v : V} {ds : List D} {vs : List V} {a : Addr} {n : Nat} {F : Fn} {Q : VK} {Ex : XK}
theorem Post.nox {r : R D} (p : Post G Wx (fun W' H' => Rep G W' H') W0 H0 W H σ E r.nox Q) : Post G (fun _ _ _ _ => False) (fun W' H' => Rep G W' H') W0 H0 W H σ E r Q := by
  cases r with
  | ok d M' => exact p
  | exc c ds M' => exact p.elim
  | bad => exact p
/-- a callee's promise, from what is wished behind the call -/
theorem spF_of (rel : Rel G W0 H0 W σ H E M) (r : Reps G W H ds vs) (hl : ds.length = n) (p : Post G Wx (fun W' H' => Rep G W' H') W0 H0 W H σ E (F ds M) Q) (hx : ∀ C o H', Wx C o σ H' → Ex C o H') : spF G n F vs H Q Ex := by
  refine ⟨W, M, ds, rel.toCRel, r, hl, ?_⟩
  cases q : F ds M with
  | bad => rw [q] at p; exact p
  | ok d M' => rw [q] at p; exact fun W' H' v x c rv l => p W' H' v x (rel.after x c) rv l
  | exc cn es M' => rw [q] at p; exact fun W' H' C o x c rv l => hx _ _ _ (p W' H' C o x (rel.after x c) rv l)
end

/-- as many arguments as wanted -/
@[simp] def ifN (n : Nat) (F : Fn) : Fn := fun ds M => if ds.length = n then F ds M else .bad

section
variable {X : Cx} {ct : List (Str × List Str)} {Wx : WX} {e e1 ei o a b tg iter elt value : Expr} {es ifs : List Expr} {f f1 f2 fi : CE} {r : CR} {it g : CA} {t t1 t2 : CT} {pos apos p p' : Pos} {x y m : Str} {n k c : Nat} {F : Fn}

theorem ifN_of {ds : List D} {M : Mem} {α : Type} {P : R D → Prop} (h : P (ifN n F ds M)) (hb : ¬ P .bad) : ds.length = n ∧ P (F ds M) := by
  unfold ifN at h
  by_cases q : ds.length = n
  · rw [if_pos q] at h; exact ⟨q, h⟩
  · rw [if_neg q] at h; exact (hb h).elim
theorem paf_nil' : PAf X ct Wx [] aNil := paf_nil

/-- f(..): nothing is raised -/
theorem pf_call0 (hr : Room k X.A) (D : DefOk X.prog X.w X.K X.mg X.base ct k x n F) (ha : PAf X ct Wx (e :: es) g) (hg : Gl X x := by rfl) (hdb : (x == ("__debug__" : Str)) = false := by decide) (he : starEach (e :: es) X.env = (false, eval e X.env) :: starEach es X.env := by rfl) (hpl : (backTo pos (starEach es X.env)).any (·.1) = false := by rfl) :
    PF X ct Wx (.Call (.Name x p) (e :: es) [] pos) (cCall0 (ifN n F) g) := by
  obtain ⟨fa, fd, ps, h1, h2, h3, h4⟩ := D.ex
  refine PE.fin (pe_call h4 hr hg h1 h2 h3 .nil passL ha hdb he hpl) ?_
  rintro σ H Q l ⟨W0, H0, W, E, M, rel, p⟩
  refine ⟨W0, H0, W, E, M, rel, Post.bind p fun ds M1 W1 H1 vs _ x1 rel1 r1 l1 p => ?_⟩
  rw [List.append_nil]
  obtain ⟨hl, p⟩ := ifN_of (α := Unit) (P := fun r => Post (Gx X ct) Wx (fun W' H' => Rep (Gx X ct) W' H') W0 H0 W1 H1 σ E r.nox Q) p id
  exact spF_of rel1 r1 hl (Post.nox (Post.pass p)) fun _ _ _ z => z
theorem pf_call00 (hr : Room k X.A) (D : DefOk X.prog X.w X.K X.mg X.base ct k x n F) (hg : Gl X x := by rfl) (hdb : (x == ("__debug__" : Str)) = false := by decide) :
    PF X ct Wx (.Call (.Name x p) [] [] pos) (cCall0 (ifN n F) aNil) := by
  obtain ⟨fa, fd, ps, h1, h2, h3, h4⟩ := D.ex
  refine PE.fin (pe_call0 h4 hr hg h1 h2 h3 .nil passL hdb) ?_
  rintro σ H Q l ⟨W0, H0, W, E, M, rel, p⟩
  obtain ⟨hl, p⟩ := ifN_of (α := Unit) (P := fun r => Post (Gx X ct) Wx (fun W' H' => Rep (Gx X ct) W' H') W0 H0 W H σ E r.nox Q) p id
  exact spF_of rel .nil hl (Post.nox (Post.pass p)) fun _ _ _ z => z
/-- f(..): what is raised goes on -/
theorem pf_call (tk : Takes X Wx) (hr : Room k X.A) (D : DefOk X.prog X.w X.K X.mg X.base ct k x n F) (ha : PAf X ct Wx (e :: es) g) (hg : Gl X x := by rfl) (hdb : (x == ("__debug__" : Str)) = false := by decide) (he : starEach (e :: es) X.env = (false, eval e X.env) :: starEach es X.env := by rfl) (hpl : (backTo pos (starEach es X.env)).any (·.1) = false := by rfl) :
    PF X ct Wx (.Call (.Name x p) (e :: es) [] pos) (cCall (ifN n F) g) := by
  obtain ⟨fa, fd, ps, h1, h2, h3, h4⟩ := D.ex
  refine PE.fin (pe_callS h4 hr hg h1 h2 h3 (passAt tk) ha hdb he hpl) ?_
  rintro σ H Q l ⟨W0, H0, W, E, M, rel, p⟩
  refine ⟨W0, H0, W, E, M, rel, Post.bind p fun ds M1 W1 H1 vs _ x1 rel1 r1 l1 p => ?_⟩
  obtain ⟨hl, p⟩ := ifN_of (α := Unit) (P := fun r => Post (Gx X ct) Wx (fun W' H' => Rep (Gx X ct) W' H') W0 H0 W1 H1 σ E r Q) p id
  exact spF_of rel1 r1 hl (Post.pass p) fun _ _ _ z => z

/-! ### methods -/
theorem lookup_none {f : Str} : ∀ {vs : List (Str × V)}, f ∉ vs.map (·.1) → vs.lookup f = none
  | [], _ => rfl
  | (g, w) :: vs, h => by
    have ne : ¬ f = g := fun z => h (by rw [List.map_cons]; exact List.mem_cons.mpr (.inl z))
    rw [List.lookup_cons]
    have : (f == g) = false := by simpa using ne
    rw [this]
    exact lookup_none fun z => h (by rw [List.map_cons]; exact List.mem_cons.mpr (.inr z))
@[simp] def cMethN (c n : Nat) (F : Fn) (o : CE) (g : CA) : CE := fun E M => (o E M).bind fun d M => match view M d with
  | .obj c' _ => if c' = c then (g E M).bind fun ds M => (ifN n F (d :: ds) M).nox else .bad
  | _ => .bad
theorem pf_meth (hr : Room k X.A) (D : MetOk X.prog X.w X.K X.mg X.base ct k c m n F) (ho : PF X ct Wx o f) (ha : PAf X ct Wx (e :: es) g) {pl : Sem Bool} (hst : starEach (e :: es) X.env = (false, eval e X.env) :: starEach es X.env := by rfl) (hpl : (backTo pos (starEach es X.env)).any (·.1) = false := by rfl)
    (ht : eval (.Call (.Attribute o m apos) (e :: es) [] pos) X.env = (do
      let ov ← eval o X.env
      standAt apos.atName
      let (f, first) ← holding [ov] (getMethod ov m pl)
      callWith pos f first (backTo pos (starEach (e :: es) X.env)) (backToKw pos (keywordEach [] X.env))) := by rfl) :
    PF X ct Wx (.Call (.Attribute o m apos) (e :: es) [] pos) (cMethN c n F f g) := by
  obtain ⟨nm, ns, C, fa, fd, ps, h1, h2, h3, h4, h5, h6, h7⟩ := D.ex
  refine PE.fin (pe_meth ho h3 h5 h7 hr h6 .nil passL ha hst hpl ht) ?_
  rintro σ H Q l ⟨W0, H0, W, E, M, rel, p⟩
  refine ⟨W0, H0, W, E, M, rel, Post.bind p fun d M1 W1 H1 v _ x1 rel1 r1 l1 pp => ?_⟩
  clear p
  split at pp
  · rename_i c' ds0 ev
    by_cases ec : c' = c
    · rw [if_pos ec] at pp
      subst ec
      obtain ⟨nm', ns', p1, C', dx, vs, rfl, t1, t2, h, hk, rr⟩ := see_obj rel1 (.rep r1) ev
      have t1 : ct[c']? = some (nm', ns') := t1
      rw [h1] at t1
      cases t1
      rw [show (Gx X ct).mg = X.mg from rfl, h2] at t2
      cases t2
      refine ⟨p1, dx, vs, rfl, h, lookup_none (by rw [hk]; exact fun z => h4 (List.mem_of_mem_take z)), W0, H0, W1, E, M1, rel1, Post.bind pp fun ds M2 W2 H2 vs2 _ x2 rel2 r2 l2 pq => ?_⟩
      rw [List.append_nil]
      obtain ⟨hl, p⟩ := ifN_of (α := Unit) (P := fun r => Post (Gx X ct) Wx (fun W' H' => Rep (Gx X ct) W' H') W0 H0 W2 H2 σ E r.nox Q) pq id
      exact spF_of rel2 (.cons (r1.mono x2.toExt0) r2) hl (Post.nox (Post.pass p)) fun _ _ _ z => z
    · rw [if_neg ec] at pp; exact pp.elim
  · exact pp.elim
theorem pf_meth0 (hr : Room k X.A) (D : MetOk X.prog X.w X.K X.mg X.base ct k c m n F) (ho : PF X ct Wx o f) {pl : Sem Bool}
    (ht : eval (.Call (.Attribute o m apos) [] [] pos) X.env = (do
      let ov ← eval o X.env
      standAt apos.atName
      let (f, first) ← holding [ov] (getMethod ov m pl)
      callWith pos f first (backTo pos (starEach [] X.env)) (backToKw pos (keywordEach [] X.env))) := by rfl) :
    PF X ct Wx (.Call (.Attribute o m apos) [] [] pos) (cMethN c n F f aNil) := by
  obtain ⟨nm, ns, C, fa, fd, ps, h1, h2, h3, h4, h5, h6, h7⟩ := D.ex
  refine PE.fin (pe_meth0 ho h3 h5 h7 hr h6 .nil passL ht) ?_
  rintro σ H Q l ⟨W0, H0, W, E, M, rel, p⟩
  refine ⟨W0, H0, W, E, M, rel, Post.bind p fun d M1 W1 H1 v _ x1 rel1 r1 l1 pp => ?_⟩
  clear p
  split at pp
  · rename_i c' ds0 ev
    by_cases ec : c' = c
    · rw [if_pos ec] at pp
      subst ec
      obtain ⟨nm', ns', p1, C', dx, vs, rfl, t1, t2, h, hk, rr⟩ := see_obj rel1 (.rep r1) ev
      have t1 : ct[c']? = some (nm', ns') := t1
      rw [h1] at t1
      cases t1
      rw [show (Gx X ct).mg = X.mg from rfl, h2] at t2
      cases t2
      refine ⟨p1, dx, vs, rfl, h, lookup_none (by rw [hk]; exact fun z => h4 (List.mem_of_mem_take z)), ?_⟩
      obtain ⟨hl, p⟩ := ifN_of (α := Unit) (P := fun r => Post (Gx X ct) Wx (fun W' H' => Rep (Gx X ct) W' H') W0 H0 W1 H1 σ E r.nox Q) pp id
      exact spF_of rel1 (.cons r1 .nil) hl (Post.nox (Post.pass p)) fun _ _ _ z => z
    · rw [if_neg ec] at pp; exact pp.elim
  · exact pp.elim

/-! ### instances -/
theorem make_rel {G : Gm} {W0 W1 : Wd} {H0 H1 : Hp} {σ : L2.St} {E : Env} {M1 : Mem} {ds : List D} {vs : List V} {x dx C : Addr} {cn : Nat} {nm : Str} {ns : List Str} (t1 : G.ct[cn]? = some (nm, ns)) (t2 : G.mg nm = some (.ref C)) (rel1 : Rel G W0 H0 W1 σ H1 E M1) (r1 : Reps G W1 H1 ds vs)
    (hx : H1 x = none) (hd : H1 dx = none) (ne : dx ≠ x) :
    Ext W1 H1 (W1.add x) (upd (upd H1 dx (.own x)) x (.ins C dx [])) ∧ Rel G W0 H0 (W1.add x) σ (upd (upd H1 dx (.own x)) x (.ins C dx [])) E (M1 ++ [.ins cn []]) ∧ Reps G (W1.add x) (upd (upd H1 dx (.own x)) x (.ins C dx [])) ds vs ∧
      Rep G (W1.add x) (upd (upd H1 dx (.own x)) x (.ins C dx [])) (.loc M1.length) (.ref x) := by
  have xa := Ext.new (o := .own x) rel1.toCRel hd
  have rela := rel1.after xa (rel1.toCRel.new hd)
  have hx' : upd H1 dx (.own x) x = none := by rw [upd_ne (Ne.symm ne)]; exact hx
  have xb := Ext.new (o := .ins C dx []) rela.toCRel hx'
  have relb := rela.after xb (rela.toCRel.new hx')
  have asd : Aside W1 σ E x := Aside.new rel1 hx
  have z0 : H0 x = none := rel1.toCRel.was rel1.ext hx
  have relc := relb.addLoc (a := x) (c := .ins cn []) ⟨nm, ns, C, dx, [], t1, t2, upd_same, by simp, .nil⟩ asd z0
  have xab := Ext.trans rela.toCRel xa xb
  refine ⟨⟨xab.toExt0.trans Ext0.add, fun a ha => ?_, xab.zn, xab.keep⟩, relc, (r1.mono xab.toExt0).mono Ext0.add, .loc (by rw [← rel1.len]; simp)⟩
  rcases List.mem_append.mp ha with q | q
  · exact .inl q
  · rw [List.mem_singleton.mp q]; exact .inr hx
/-- C(..), a common cell -/
@[simp] def cMk (c n : Nat) (F : Fn) (g : CA) : CE := fun E M => (g E M).bind fun ds M1 => match ifN n F (.loc M1.length :: ds) (M1 ++ [.ins c []]) with
  | .ok .non M' => .ok (.loc M1.length) M'
  | _ => .bad
theorem pf_mk (hr : Room (k + 1) X.A) (D : IniOk X.prog X.w X.K X.mg X.base ct k c x n F) (ha : PAf X ct Wx (e :: es) g) (hg : Gl X x := by rfl) (hdb : (x == ("__debug__" : Str)) = false := by decide) (he : starEach (e :: es) X.env = (false, eval e X.env) :: starEach es X.env := by rfl) (hpl : (backTo pos (starEach es X.env)).any (·.1) = false := by rfl) :
    PF X ct Wx (.Call (.Name x p) (e :: es) [] pos) (cMk c n F g) := by
  obtain ⟨ns, C, fa, fd, ps, h1, h2, h3, h4, h5⟩ := D.ex
  refine PE.fin (pe_make h3 h5 hr hg h2 h4 .nil passL ha hdb he hpl) ?_
  rintro σ H Q l ⟨W0, H0, W, E, M, rel, p⟩
  refine ⟨W0, H0, W, E, M, rel, Post.bind p fun ds M1 W1 H1 vs _ x1 rel1 r1 l1 pq => ?_⟩
  clear p
  intro xa dx hx hd ne
  rw [List.append_nil]
  obtain ⟨x2, rel2, r2, rx⟩ := make_rel (G := Gx X ct) (cn := c) h1 h2 rel1 r1 hx hd ne
  obtain ⟨hl, pq⟩ := ifN_of (α := Unit) (P := fun r => Post (Gx X ct) Wx (fun W' H' => Rep (Gx X ct) W' H') W0 H0 W1 H1 σ E (match r with | .ok .non M' => R.ok (.loc M1.length) M' | _ => R.bad) Q) pq id
  refine ⟨W1.add xa, _, _, rel2.toCRel, .cons rx r2, hl, ?_⟩
  cases q : F (.loc M1.length :: ds) (M1 ++ [.ins c []]) with
  | bad => rw [q] at pq; exact pq
  | exc cn es M' => rw [q] at pq; exact pq.elim
  | ok d M' =>
    rw [q] at pq
    intro W' H' v x3 c3 r3 l3
    cases r3 with
    | non => exact ⟨rfl, fun _ => pq W' H' _ (Ext.trans rel2.toCRel x2 x3) (rel2.after x3 c3) (rx.mono x3.toExt0) l3⟩
    | _ => exact pq.elim
/-- C(..), nobody's yet -/
@[simp] def cMkN (c n : Nat) (F : Fn) (g : CA) : CE := fun E M => (g E M).bind fun ds M1 => match ifN n F (.loc M1.length :: ds) (M1 ++ [.ins c []]) with
  | .ok .non M' => match M'[M1.length]? with
    | some (.ins c' fs) => if (lowDs M1.length fs && okM M1.length M1 (M'.take M1.length)) = true then .ok (.obj c' fs) (M'.take M1.length) else .bad
    | _ => .bad
  | _ => .bad
theorem n_mk (hr : Room (k + 1) X.A) (D : IniOk X.prog X.w X.K X.mg X.base ct k c x n F) (ha : PAf X ct Wx (e :: es) g) (hg : Gl X x := by rfl) (hdb : (x == ("__debug__" : Str)) = false := by decide) (he : starEach (e :: es) X.env = (false, eval e X.env) :: starEach es X.env := by rfl) (hpl : (backTo pos (starEach es X.env)).any (·.1) = false := by rfl) :
    PNf X ct Wx (.Call (.Name x p) (e :: es) [] pos) (cMkN c n F g) := by
  obtain ⟨ns, C, fa, fd, ps, h1, h2, h3, h4, h5⟩ := D.ex
  refine PE.fin (pe_make h3 h5 hr hg h2 h4 .nil passL ha hdb he hpl) ?_
  rintro σ H Q l ⟨W0, H0, W, E, M, rel, p⟩
  refine ⟨W0, H0, W, E, M, rel, Post.bind p fun ds M1 W1 H1 vs _ x1 rel1 r1 l1 pq => ?_⟩
  clear p
  intro xa dx hx hd ne
  rw [List.append_nil]
  obtain ⟨x2, rel2, r2, rx⟩ := make_rel (G := Gx X ct) (cn := c) h1 h2 rel1 r1 hx hd ne
  obtain ⟨hl, pq⟩ := ifN_of (α := Unit) (P := fun r => Post (Gx X ct) Wx (RpN (Gx X ct) σ E H) W0 H0 W1 H1 σ E (match r with
    | .ok .non M' => (match M'[M1.length]? with
      | some (.ins c' fs) => if (lowDs M1.length fs && okM M1.length M1 (M'.take M1.length)) = true then R.ok (.obj c' fs) (M'.take M1.length) else .bad
      | _ => .bad)
    | _ => R.bad) Q) pq id
  refine ⟨W1.add xa, _, _, rel2.toCRel, .cons rx r2, hl, ?_⟩
  cases q : F (.loc M1.length :: ds) (M1 ++ [.ins c []]) with
  | bad => rw [q] at pq; exact pq
  | exc cn es M' => rw [q] at pq; exact pq.elim
  | ok d M' =>
    rw [q] at pq
    intro W' H' v x3 c3 r3 l3
    cases r3 with
    | non =>
      refine ⟨rfl, fun _ => ?_⟩
      dsimp only at pq
      cases qm : M'[M1.length]? with
      | none => rw [qm] at pq; exact pq.elim
      | some cl =>
        rw [qm] at pq
        cases cl with
        | ins c' fs =>
          dsimp only at pq
          by_cases hk : (lowDs M1.length fs && okM M1.length M1 (M'.take M1.length)) = true
          · rw [if_pos hk] at pq
            rw [Bool.and_eq_true] at hk
            have x12 := Ext.trans rel2.toCRel x2 x3
            obtain ⟨xc, cc⟩ := rel1.toCRel.cut x12 c3 hk.2
            have asd : Aside W1 σ E xa := Aside.new rel1 hx
            have hph : W'.phi[M1.length]? = some xa := by
              have := rx.mono x3.toExt0
              cases this with
              | loc h => exact h
            obtain ⟨more, hp⟩ := x12.ph
            have ok1 := c3.cel _ _ _ qm hph
            have ok2 := ok1.cut hp (by rw [rel1.len]; exact hk.1)
            exact pq _ H' _ xc (rel1.after xc cc) ⟨xa, .ins c' fs, rfl, rfl, ok2, ⟨asd.ph, c3.sep xa (List.mem_of_getElem? hph), asd.ow⟩, rel1.toCRel.was x1 hx⟩ l3
          · rw [if_neg hk] at pq; exact pq.elim
        | _ => exact pq.elim
    | _ => exact pq.elim

/-! ### a field that holds a def -/
@[simp] def cMethV (c j : Nat) (T : Str → Option Fn) (n : Nat) (o : CE) (g : CA) : CE := fun E M => (o E M).bind fun d M => match gFld c j (view M d) with
  | some (.fn x) => match T x with
    | some F => (g E M).bind fun ds M => (ifN n F ds M).nox
    | none => .bad
  | _ => .bad
def tMethV (C : Addr) (m : Str) (S : Addr → Sp → Prop) (E : XK) (ta : TE) (t : TA) : TE := fun σ H Q => ta σ H fun x H1 => ∃ a dx fs f sp, x = .ref a ∧ H1 a = some (.ins C dx fs) ∧ fs.lookup m = some (.ref f) ∧ S f sp ∧
  t σ H1 fun vs H2 => sp vs H2 Q E
theorem getfld_ok {pins : List (Addr × Obj)} {σ : L2.St} {H : Hp} {s : Shared} {a C dx : Addr} {fs : List (Str × V)} {A : Around} {Eq : Value → Shared → Prop} {pl : Sem Bool} {v : V} {Q : Value × List Value → Shared → Prop} (I : Inv X pins σ H s) (h : H a = some (.ins C dx fs)) (c : Cls X.K C) (n : NoAttr X.K C m) (l : fs.lookup m = some v)
    (hq : ∀ u s', Inv X pins σ H s' → RelV v u → Q (u, []) s') : wpAny (model X.prog X.w) A (getMethod (.ref a) m pl) Q Eq s := by
  obtain ⟨mA, O, r, _, _, _⟩ := ins_get I.hok h
  obtain ⟨od, J, hl⟩ := O.look
  refine PySem.W.method_usual I.kIn J (PySem.W.plainGet_of (c.get m)).1 (PySem.W.plainGet_of (c.get m)).2 n rfl ?_
  exact getattr_ok I h c n l fun u s' I' ru => hq u s' I' ru
theorem pe_methV {S : Addr → Sp → Prop} {Ex : XK} {CX : CXT} {C : Addr} {ta : TE} {t : TA} {pl : Sem Bool} (he : PE X o ta) (cl : Cls X.K C) (hn : NoAttr X.K C m) (hr : Room k X.A) (hS : ∀ f sp, S f sp → ∃ fd ps, PySem.W.keepIn X.K (.ref f) = true ∧ Binds X.K fd ps [] ∧ FnOk X.prog X.w X.K X.mg X.base CX k f fd ps sp) (hx : Passes CX X Ex) (ha : PA X (e :: es) t)
    (hst : starEach (e :: es) X.env = (false, eval e X.env) :: starEach es X.env := by rfl) (hpl : (backTo pos (starEach es X.env)).any (·.1) = false := by rfl)
    (ht : eval (.Call (.Attribute o m apos) (e :: es) [] pos) X.env = (do
      let ov ← eval o X.env
      standAt apos.atName
      let (f, first) ← holding [ov] (getMethod ov m pl)
      callWith pos f first (backTo pos (starEach (e :: es) X.env)) (backToKw pos (keywordEach [] X.env))) := by rfl) :
    PE X (.Call (.Attribute o m apos) (e :: es) [] pos) (tMethV C m S Ex ta t) := by
  refine ⟨fun pins s σ H Q I h => ?_⟩
  refine PySem.W.methodCall_KW (pl := pl) (thn (he.run pins s σ H _ I h) fun u s1 ⟨x, H1, I1, rx, a, dx, fs, f, sp, ex, ea, l, hs, q⟩ => ?_) ht
  subst ex
  obtain rfl : u = Value.ref a := rx
  obtain ⟨fd, ps, hk, hb, F⟩ := hS f sp hs
  refine getfld_ok I1 ea cl hn l fun u s2 I2 ru => ?_
  obtain rfl : u = Value.ref f := ru
  refine PySem.W.callWith_K (first := []) (h₀ := X.base) I.ok.mod.kin hk (thn (ha.run pos pins s2 σ H1 _ I2 q) fun us s3 ⟨vs, H3, I3, r, q2⟩ => ⟨I3.kIn, ?_⟩) hst hpl
  exact run_fn F hr hb .nil hx I3 r (by rw [List.append_nil]; exact q2)
theorem pf_methV {T : Str → Option Fn} (cn j : Nat) (hC : ClsX X.K X.mg ct cn) (hr : Room k X.A) (hT : ∀ x F, T x = some F → DefOk X.prog X.w X.K X.mg X.base ct k x n F) (ho : PF X ct Wx o f) (ha : PAf X ct Wx (e :: es) g) (hj : (ct[cn]?.bind fun p => p.2[j]?) = some m := by rfl) {pl : Sem Bool}
    (hst : starEach (e :: es) X.env = (false, eval e X.env) :: starEach es X.env := by rfl) (hpl : (backTo pos (starEach es X.env)).any (·.1) = false := by rfl)
    (ht : eval (.Call (.Attribute o m apos) (e :: es) [] pos) X.env = (do
      let ov ← eval o X.env
      standAt apos.atName
      let (f, first) ← holding [ov] (getMethod ov m pl)
      callWith pos f first (backTo pos (starEach (e :: es) X.env)) (backToKw pos (keywordEach [] X.env))) := by rfl) :
    PF X ct Wx (.Call (.Attribute o m apos) (e :: es) [] pos) (cMethV cn j T n f g) := by
  obtain ⟨nm, ns, C, h1, h2, cl, nd, _, no⟩ := hC.ex
  rw [h1] at hj
  have hj : ns[j]? = some m := hj
  -- the promises by address
  let S : Addr → Sp → Prop := fun a sp => ∃ x F, T x = some F ∧ X.mg x = some (.ref a) ∧ sp = spF (Gx X ct) n F
  have hS : ∀ a sp, S a sp → ∃ fd ps, PySem.W.keepIn X.K (.ref a) = true ∧ Binds X.K fd ps [] ∧ FnOk X.prog X.w X.K X.mg X.base (L2.CX X.prog X.w) k a fd ps sp := by
    rintro a sp ⟨x, F, t1, t2, rfl⟩
    obtain ⟨fa, fd, ps, q1, q2, q3, q4⟩ := (hT x F t1).ex
    rw [t2] at q1
    cases q1
    exact ⟨fd, ps, q2, q3, q4⟩
  refine PE.fin (pe_methV (S := S) ho cl (no m (List.mem_of_getElem? hj)) hr hS passL ha hst hpl ht) ?_
  rintro σ H Q l ⟨W0, H0, W, E, M, rel, p⟩
  refine ⟨W0, H0, W, E, M, rel, Post.bind p fun d M1 W1 H1 v _ x1 rel1 r1 l1 pp => ?_⟩
  clear p
  cases qg : gFld cn j (view M1 d) with
  | none => rw [qg] at pp; exact pp.elim
  | some d2 =>
    rw [qg] at pp
    cases d2 with
    | fn y =>
      dsimp only at pp
      cases qT : T y with
      | none => rw [qT] at pp; exact pp.elim
      | some F =>
        rw [qT] at pp
        dsimp only at pp
        unfold gFld at qg
        split at qg
        · rename_i c' ds0 ev
          split at qg
          · rename_i ec
            subst ec
            obtain ⟨nm', ns', p1, C', dx, vs, rfl, t1, t2, h, hk, rr⟩ := see_obj rel1 (.rep r1) ev
            have t1 : ct[c']? = some (nm', ns') := t1
            rw [h1] at t1
            cases t1
            rw [show (Gx X ct).mg = X.mg from rfl, h2] at t2
            cases t2
            obtain ⟨w, g1, g2⟩ := rr.get qg
            cases g2 with
            | @fn fa x hf =>
              have hlt : j < ds0.length := (List.getElem?_eq_some_iff.mp qg).1
              refine ⟨p1, dx, vs, fa, _, rfl, h, lookup_at hk (nd.sublist (List.take_sublist _ _)) (by rw [List.getElem?_take_of_lt hlt]; exact hj) g1, ⟨y, F, qT, hf, rfl⟩, W0, H0, W1, E, M1, rel1, Post.bind pp fun ds M2 W2 H2 vs2 _ x2 rel2 r2 l2 pq => ?_⟩
              obtain ⟨hl, pq⟩ := ifN_of (α := Unit) (P := fun r => Post (Gx X ct) Wx (fun W' H' => Rep (Gx X ct) W' H') W0 H0 W2 H2 σ E r.nox Q) pq id
              exact spF_of rel2 r2 hl (Post.nox (Post.pass pq)) fun _ _ _ z => z
          · cases qg
        · cases qg
    | _ => exact pp.elim
end
/-- a table of defs by name -/
def tabL : List (Str × Fn) → Str → Option Fn
  | [], _ => none
  | (y, F) :: r, x => if x = y then some F else tabL r x
@[simp] def noF : Fn := fun _ _ => .bad
end J
namespace J
open PySem PySem.Spec L2 PyProof.Rows

/-! ### a dict is locked while it is walked -/
section
variable {G : Gm} {Wx : WX} {W0 W W1 W' : Wd} {H0 H H1 H' : Hp} {σ σ' : L2.St} {E E' : Env} {M M1 M' : Mem} {d : Addr} {u : HO} {od : Obj}
theorem isDict_nofrz {o : Obj} {f : HO} (h : isDict u = true) : u ≠ .frz o f := by intro q; subst q; cases h
theorem Ext0.lock (h : H d = some u) (du : isDict u = true) : Ext0 W H W (upd H d (.frz od u)) := by
  have ne : ∀ {b f}, H b = some f → f ≠ u → b ≠ d := fun {b f} e n q => by subst q; rw [h] at e; exact n (Option.some.inj e).symm
  refine ⟨⟨⟨[], by simp⟩, fun _ z => z, fun a f z hf r => ?_, fun a vs z e => ?_, fun a o vs e => ?_, fun a xs e => ?_, fun a C dx fs z e => ?_⟩, fun a o f e => ?_⟩
  · by_cases q : a = d
    · subst q
      rcases r with r | ⟨o, r⟩
      · rw [h] at r; cases r; exact .inr ⟨od, upd_same⟩
      · rw [h] at r; cases r; cases du
    · rcases r with r | ⟨o, r⟩
      · exact .inl (by rw [upd_ne q]; exact r)
      · exact .inr ⟨o, by rw [upd_ne q]; exact r⟩
  · rw [upd_ne (ne e (by intro q; subst q; cases du))]; exact e
  · rw [upd_ne (ne e (by intro q; subst q; cases du))]; exact e
  · rw [upd_ne (ne e (by intro q; subst q; cases du))]; exact e
  · rw [upd_ne (ne e (by intro q; subst q; cases du))]; exact e
  · rw [upd_ne (ne e (by intro q; subst q; cases du))]; exact e
theorem Rel.notZ0 (r : Rel G W0 H0 W σ H E M) (z : W.Z d) {o : HO} (h : H0 d = some o) (n : ¬ W0.Z d) : False := by
  rcases r.ext.zn d z with q | q
  · exact n q
  · rw [h] at q; cases q
theorem Rel.lock (r : Rel G W0 H0 W σ H E M) (z : W.Z d) (h : H d = some u) (du : isDict u = true) : Rel G W0 H0 W σ (upd H d (.frz od u)) E M := by
  have x : Ext0 W H W (upd H d (.frz od u)) := Ext0.lock h du
  refine ⟨⟨r.len, fun l cl b h1 h2 => (r.cel l cl b h1 h2).mono x fun o ho => by rw [upd_ne (fun q => r.sep b (List.mem_of_getElem? h2) (by rw [q]; exact z))]; exact ho, r.nd, r.sep, fun b zb => ?_⟩, ⟨r.ext.toExt0.trans x, r.ext.fr, r.ext.zn, fun b o e n1 n2 => ?_⟩, fun i s hs => ?_, r.sz, r.own⟩
  · by_cases q : b = d
    · subst q; exact ⟨_, upd_same⟩
    · rw [upd_ne q]; exact r.zs b zb
  · rw [upd_ne (fun q => by subst q; exact r.notZ0 z e n2)]; exact r.ext.keep b o e n1 n2
  · have q := r.slt i s hs
    cases s with
    | un => exact True.intro
    | sh d => obtain ⟨w, e2, h2⟩ := q; exact ⟨w, e2, h2.mono x⟩
    | ow c => obtain ⟨b, e2, h2, n1, n2, n3⟩ := q; exact ⟨b, e2, h2.mono x fun o ho => by rw [upd_ne (fun q => n2 (by rw [q]; exact z))]; exact ho, n1, n2, n3⟩
theorem ExtV.trans (a : ExtV W H W1 H1) (b : ExtV W1 H1 W' H') : ExtV W H W' H' := by
  obtain ⟨m1, e1⟩ := a.ph
  obtain ⟨m2, e2⟩ := b.ph
  exact ⟨⟨m1 ++ m2, by rw [e2, e1, List.append_assoc]⟩, fun p z => b.z p (a.z p z), fun p u z f r => b.rd p u (a.z p z) f (a.rd p u z f r), fun p vs z h => b.ls p vs (a.z p z) (a.ls p vs z h), fun p o vs h => b.fz p o vs (a.fz p o vs h), fun p xs h => b.tp p xs (a.tp p xs h), fun p C dx fs z h => b.ob p C dx fs (a.z p z) (a.ob p C dx fs z h)⟩
theorem ExtV.unlock (h : H' d = some (.frz od u)) (du : isDict u = true) : ExtV W' H' W' (upd H' d u) := by
  have ne : ∀ {b f}, H' b = some f → f ≠ .frz od u → b ≠ d := fun {b f} e n q => by subst q; rw [h] at e; exact n (Option.some.inj e).symm
  refine ⟨⟨[], by simp⟩, fun _ z => z, fun a f z hf r => ?_, fun a vs z e => ?_, fun a o vs e => ?_, fun a xs e => ?_, fun a C dx fs z e => ?_⟩
  · by_cases q : a = d
    · subst q
      rcases r with r | ⟨o, r⟩
      · rw [h] at r; cases r; cases hf
      · rw [h] at r; cases r; exact .inl upd_same
    · rcases r with r | ⟨o, r⟩
      · exact .inl (by rw [upd_ne q]; exact r)
      · exact .inr ⟨o, by rw [upd_ne q]; exact r⟩
  · rw [upd_ne (ne e (by intro q; cases q))]; exact e
  · rw [upd_ne (ne e (by intro q; cases q; cases du))]; exact e
  · rw [upd_ne (ne e (by intro q; cases q))]; exact e
  · rw [upd_ne (ne e (by intro q; cases q))]; exact e
theorem Rel.unlock (rel0 : Rel G W0 H0 W σ H E M) (h : H d = some u) (du : isDict u = true) (z : W.Z d) (x : Ext0 W (upd H d (.frz od u)) W' H') (r : Rel G W0 H0 W' σ' H' E' M') :
    Ext0 W H W' (upd H' d u) ∧ Rel G W0 H0 W' σ' (upd H' d u) E' M' := by
  have hf : H' d = some (.frz od u) := x.fd d od u upd_same
  have z' : W'.Z d := x.z d z
  have xl : Ext0 W H W (upd H d (.frz od u)) := Ext0.lock h du
  have xu : ExtV W' H' W' (upd H' d u) := ExtV.unlock hf du
  refine ⟨⟨(xl.toExtV.trans x.toExtV).trans xu, fun a o f e => ?_⟩, ⟨r.len, fun l cl b h1 h2 => (r.cel l cl b h1 h2).monoV xu fun o ho => by rw [upd_ne (fun q => r.sep b (List.mem_of_getElem? h2) (by rw [q]; exact z'))]; exact ho, r.nd, r.sep, fun b zb => ?_⟩,
    ⟨⟨r.ext.toExtV.trans xu, fun a o f e => ?_⟩, r.ext.fr, r.ext.zn, fun b o e n1 n2 => ?_⟩, fun i s hs => ?_, r.sz, r.own⟩
  · have n : a ≠ d := fun q => by subst q; rw [h] at e; cases e; cases du
    rw [upd_ne n]
    exact x.fd a o f (by rw [upd_ne n]; exact e)
  · by_cases q : b = d
    · subst q; exact ⟨_, upd_same⟩
    · rw [upd_ne q]; exact r.zs b zb
  · have n : a ≠ d := fun q => by
      subst q
      have := rel0.ext.fd a o f e
      rw [h] at this; cases this; cases du
    rw [upd_ne n]; exact r.ext.fd a o f e
  · rw [upd_ne (fun q => by subst q; exact rel0.notZ0 z e n2)]; exact r.ext.keep b o e n1 n2
  · have q := r.slt i s hs
    cases s with
    | un => exact True.intro
    | sh d => obtain ⟨w, e2, h2⟩ := q; exact ⟨w, e2, h2.monoV xu⟩
    | ow c => obtain ⟨b, e2, h2, n1, n2, n3⟩ := q; exact ⟨b, e2, h2.monoV xu fun o ho => by rw [upd_ne (fun q => n2 (by rw [q]; exact z'))]; exact ho, n1, n2, n3⟩
def lockD (d : Addr) (od : Obj) (u : HO) (D : Ends) : Ends := ⟨fun σ' H' => H' d = some (.frz od u) ∧ D.nx σ' (upd H' d u), fun v H' => H' d = some (.frz od u) ∧ D.rt v (upd H' d u), fun σ' H' => H' d = some (.frz od u) ∧ D.bk σ' (upd H' d u), fun σ' H' => H' d = some (.frz od u) ∧ D.ct σ' (upd H' d u)⟩
theorem PostS.lock {r : R (Fl × Env)} {D : Ends} (rel0 : Rel G W0 H0 W σ H E M) (h : H d = some u) (du : isDict u = true) (z : W.Z d) (p : PostS G Wx W0 H0 W H r D) : PostS G Wx W0 H0 W (upd H d (.frz od u)) r (lockD d od u D) := by
  cases r with
  | bad => exact p
  | exc c ds M => exact p
  | ok a M' =>
    intro W' σ' H' x r l
    obtain ⟨fl, E'⟩ := a
    obtain ⟨xu, ru⟩ := rel0.unlock h du z x r
    have hf : H' d = some (.frz od u) := x.fd d od u upd_same
    have lu : LenOk (upd H' d u) := l.upd (fun vs q => by subst q; cases du) (fun vs q => by subst q; cases du) fun o f q => by subst q; cases du
    cases fl with
    | nx => exact ⟨hf, p W' σ' _ xu ru lu⟩
    | bk => exact ⟨hf, p W' σ' _ xu ru lu⟩
    | ct => exact ⟨hf, p W' σ' _ xu ru lu⟩
    | rt d2 => exact fun v rv => ⟨hf, p W' σ' _ xu ru lu v (rv.monoV (ExtV.unlock hf du))⟩
    | ex c ds => exact p W' σ' H' ((Ext0.lock h du).trans x) r l
end

/-! ### for k in d -/
@[simp] def keyD : Key → D
  | .inl i => .int i
  | .inr x => .str x
@[simp] def keysD : D → Option (List D)
  | .dK kvs => some (kvs.map fun kv => keyD kv.1)
  | .dT kvs => some (kvs.map fun kv => .tup (kv.1.map keyD))
  | _ => none
@[simp] def iKey (f : CE) : CA := fun E M => (f E M).bind fun d M => ofO (keysD d) M
theorem rep_keyD {G : Gm} {W : Wd} {H : Hp} : ∀ k : Key, Rep G W H (keyD k) (kV k)
  | .inl i => .int i
  | .inr x => .str x
theorem reps_keyD {G : Gm} {W : Wd} {H : Hp} : ∀ ks : List Key, Reps G W H (ks.map keyD) (ks.map kV)
  | [] => .nil
  | k :: ks => .cons (rep_keyD k) (reps_keyD ks)
section
variable {X : Cx} {ct : List (Str × List Str)} {Wx : WX} {e e1 ei o a b tg iter elt value : Expr} {es ifs : List Expr} {f f1 f2 fi : CE} {r : CR} {it g : CA} {t t1 t2 : CT} {pos apos cpos p p' : Pos} {x y m : Str} {n k c : Nat} {F : Fn} {sts : List Stmt} {s : CS}
theorem iter_keyK {G : Gm} {W : Wd} {H : Hp} {d : Addr} {o : Obj} {kvs : List (Key × D)} {vs : List (Key × V)} (ek : vs.map (·.1) = kvs.map (·.1)) (h : H d = some (.frz o (.dK vs))) : IterOk G W H (kvs.map fun kv => keyD kv.1) (Itk d o vs) := by
  have hl : vs.length = kvs.length := by have := congrArg List.length ek; simpa using this
  intro W' H' M' x c l i hi
  have h' := x.fd _ _ _ h
  rw [List.length_map] at hi
  refine ⟨fun q hq => ?_, fun hi2 => ⟨h', by rw [hi2, List.length_map, hl]; exact Nat.le_refl _⟩⟩
  have hi3 : i < kvs.length := by
    have := (List.getElem?_eq_some_iff.mp hq).1
    rwa [List.length_map] at this
  refine ⟨⟨h', by rw [hl]; exact hi3⟩, fun y H'' hy => ?_⟩
  obtain ⟨rfl, k, v, e1, rfl⟩ := hy
  refine ⟨W', Ext.refl, c, ?_, l⟩
  have e2 : (vs.map (·.1))[i]? = some k := by rw [List.getElem?_map, e1]; rfl
  rw [ek, List.getElem?_map] at e2
  rw [List.getElem?_map] at hq
  obtain ⟨kv, h1, h2⟩ := Option.map_eq_some_iff.mp e2
  rw [h1] at hq
  have hq : keyD kv.1 = q := Option.some.inj hq
  have h2 : kv.1 = k := h2
  rw [← hq, h2]
  exact rep_keyD k
theorem iter_keyT {G : Gm} {W : Wd} {H : Hp} {d : Addr} {o : Obj} {kvs : List (List Key × D)} {vs : List (List Key × V)} (ek : vs.map (·.1) = kvs.map (·.1)) (h : H d = some (.frz o (.dT vs))) : IterOk G W H (kvs.map fun kv => .tup (kv.1.map keyD)) (Itkt d o vs) := by
  have hl : vs.length = kvs.length := by have := congrArg List.length ek; simpa using this
  intro W' H' M' x c l i hi
  have h' := x.fd _ _ _ h
  rw [List.length_map] at hi
  refine ⟨fun q hq => ?_, fun hi2 => ⟨h', by rw [hi2, List.length_map, hl]; exact Nat.le_refl _⟩⟩
  have hi3 : i < kvs.length := by
    have := (List.getElem?_eq_some_iff.mp hq).1
    rwa [List.length_map] at this
  refine ⟨⟨h', by rw [hl]; exact hi3⟩, fun y H'' hy => ?_⟩
  obtain ⟨rfl, k, v, b, e1, rfl, hb⟩ := hy
  refine ⟨W', Ext.refl, c, ?_, l⟩
  have e2 : (vs.map (·.1))[i]? = some k := by rw [List.getElem?_map, e1]; rfl
  rw [ek, List.getElem?_map] at e2
  rw [List.getElem?_map] at hq
  obtain ⟨kv, h1, h2⟩ := Option.map_eq_some_iff.mp e2
  rw [h1] at hq
  have hq : D.tup (kv.1.map keyD) = q := Option.some.inj hq
  have h2 : kv.1 = k := h2
  rw [← hq, h2]
  exact .tup hb (reps_keyD k)
/-- what the walk over a locked dict wishes -/
theorem keys_run {W0 W1 : Wd} {H0 H1 : Hp} {σ : L2.St} {E : Env} {M1 : Mem} {D : Ends} {gt : TG} {gg : CG} {is : List Nat} {i : Nat}
    (hg : ∀ W0 H0 W σ H E M d v E' (Q : L2.St → Hp → Prop), Rel (Gx X ct) W0 H0 W σ H E M → Rep (Gx X ct) W H d v → gg d E = some E' → (∀ σ', Rel (Gx X ct) W0 H0 W σ' H E' M → (∀ vs, (∀ i ∈ is, i ∈ vs) → L2.wipe σ' vs = L2.wipe σ vs) → Q σ' H) → gt v σ H Q)
    (rel : Rel (Gx X ct) W0 H0 W1 σ H1 E M1) (l : LenOk H1) {d : J.D} {ds : List J.D} (hE : E[i]? = some (.sh d)) (hk : keysD d = some ds) (hf : ∀ v, σ[i]? = some (some v) → Rep (Gx X ct) W1 H1 d v → ∃ a o u, v = .ref a ∧ H1 a = some (.frz o u) ∧ isDict u = true) (p : PostS (Gx X ct) Wx W0 H0 W1 H1 (forL gg s ds E M1) D) :
    L2.tFor (iKeys (tVar i)) gt (tS (Gx X ct) Wx s) (Dl D) σ H1 := by
  obtain ⟨v, hv, rv⟩ := rel.slt i _ hE
  obtain ⟨a, o, u, rfl, ha, hu⟩ := hf v hv rv
  refine ⟨_, hv, a, o, rfl, ?_⟩
  cases rv with
  | @dK a vs kvs z h ek r =>
    cases hk
    have : u = .dK vs := by
      rcases h with h | ⟨o2, h⟩
      · rw [h] at ha; cases ha; 
      · rw [h] at ha; cases ha; rfl
    subst this
    exact .inl ⟨vs, ha, for_run hg rel l (iter_keyK ek ha) p⟩
  | @dT a vs kvs z h ek r =>
    cases hk
    have : u = .dT vs := by
      rcases h with h | ⟨o2, h⟩
      · rw [h] at ha; cases ha
      · rw [h] at ha; cases ha; rfl
    subst this
    exact .inr ⟨vs, ha, for_run hg rel l (iter_keyT ek ha) p⟩
  | _ => cases hk
theorem ps_mayLock {st : Stmt} {t : TS} (h : PS X st t) : PS X st (fun D σ H => t D σ H ∨ tLock t D σ H) := by
  refine ⟨fun pins s σ H D I q => ?_⟩
  rcases q with q | q
  · exact h.run pins s σ H D I q
  · exact (ps_lock h).run pins s σ H D I q
theorem PS.dl {st : Stmt} {t : TS} (h : PS X st t) : PS X st (fun D σ H => t (Dl D) σ H) := ⟨fun pins s σ H D I q => thn (h.run pins s σ H (Dl D) I q) fun _ _ q => SP.dl q⟩
theorem s_forK {is : List Nat} {gt : TG} {gg : CG} (i : Nat) (hp : PassesOwn (model X.prog X.w) X.A X.env X.xe) (hc : X.calm = true) (hg : PGf X ct tg is gt gg) (hb : PSsf X ct Wx sts s) (hs : foldedSetIterable (.Name x p) X.env = fun v => pure v := by rfl) (hN : X.N[i]? = some x := by rfl) (hv : Vis X.env.scope x := by first | exact Or.inl rfl | exact Or.inr (Or.inl rfl) | exact Or.inr (Or.inr rfl)) (hd : (x == ("__debug__" : Str)) = false := by decide)
    (hcd : (x == ("__classdict__" : Str)) = false := by decide) : PSf X ct Wx (.For tg (.Name x p) sts [] pos) (sFor (iKey (cV i)) gg s) := by
  have h1 := ps_mayLock (PS.dl (ps_for (pos := pos) hp hc (pi_keys (pe_var (pos := p) hN hv hd hcd)) hg.1 hb fun v => by rw [hs]))
  refine ⟨fun pins s0 σ H D I qq => h1.run pins s0 σ H D I ?_⟩
  have l := lenOk_of I
  obtain ⟨W0, H0, W, E, M, rel, p⟩ := qq
  dsimp only [sFor, iKey, cV] at p
  cases q : E[i]? with
  | none => rw [q] at p; exact p.elim
  | some sl =>
    rw [q] at p
    cases sl with
    | un => exact p.elim
    | ow c => exact p.elim
    | sh d =>
      dsimp only [R.bind] at p
      cases hk : keysD d with
      | none => rw [hk] at p; exact p.elim
      | some ds =>
        rw [hk] at p
        have p : PostS (Gx X ct) Wx W0 H0 W H (forL gg s ds E M) D := p
        obtain ⟨v, hv, rv⟩ := rel.slt i _ q
        -- the dict's place
        have z : ∃ a u, v = .ref a ∧ W.Z a ∧ isDict u = true ∧ Mut (some u) ∧ Rd H a u := by
          cases rv with
          | @dK a vs _ z h ek r => exact ⟨a, .dK vs, rfl, z, rfl, True.intro, h⟩
          | @dT a vs _ z h ek r => exact ⟨a, .dT vs, rfl, z, rfl, True.intro, h⟩
          | _ => cases hk
        obtain ⟨a, u, rfl, za, du, mu, hr⟩ := z
        rcases hr with hr | ⟨o, hr⟩
        · refine .inr ⟨a, u, hr, mu, fun od => ?_⟩
          have rl := rel.lock (od := od) za hr du
          have ll : LenOk (upd H a (.frz od u)) := by
            refine ⟨fun b vs h => ?_, fun b vs h => ?_⟩
            · by_cases q2 : b = a
              · subst q2
                rcases h with h | ⟨o2, h⟩
                · rw [upd_same] at h; cases h
                · rw [upd_same] at h; cases h; cases du
              · refine l.1 b vs ?_
                rcases h with h | ⟨o2, h⟩
                · rw [upd_ne q2] at h; exact .inl h
                · rw [upd_ne q2] at h; exact .inr ⟨o2, h⟩
            · by_cases q2 : b = a
              · subst q2; rw [upd_same] at h; cases h
              · rw [upd_ne q2] at h; exact l.2 b vs h
          exact keys_run (Wx := Wx) hg.2 rl ll q hk (fun v2 hv2 _ => by
            rw [hv] at hv2
            cases hv2
            exact ⟨a, od, u, rfl, upd_same, du⟩) (PostS.lock rel hr du za p)
        · refine .inl (keys_run hg.2 rel l q hk (fun v2 hv2 _ => ?_) p)
          rw [hv] at hv2
          cases hv2
          exact ⟨a, o, u, rfl, hr, du⟩

/-! ### list(d.values()) -/
def valuesO (p d : Addr) : HO := .ext fun h => h.IsValuesView p d
theorem valuesO_ok {P : Program} {w : World} {H : Hp} {h : Heap} {p d : Addr} (e : h.get? p = some { cls := .type "dict_values", data := .fields #[.ref d] }) : ObjOk P w H h p (valuesO p d) :=
  ⟨⟨_, e, rfl, rfl⟩, ⟨_, e⟩, fun h1 h2 x k => let ⟨o, ho, r⟩ := x; ⟨o, k o ho, r⟩⟩
def valsV : HO → List V
  | .dK kvs => kvs.map (·.2)
  | .dT kvs => kvs.map (·.2)
  | _ => []
theorem ppget {α β : Type} {F : α → β → Prop} : ∀ {l₁ : List α} {l₂ : List β} {j : Nat} {x : β}, Paired F l₁ l₂ → l₂[j]? = some x → ∃ y, l₁[j]? = some y ∧ F y x
  | _, _, _, _, .nil, h => by simp at h
  | _, _, 0, _, .cons p _, h => by simp at h; subst h; exact ⟨_, by simp, p⟩
  | _, _, j + 1, _, .cons _ t, h => by
    obtain ⟨y, h1, h2⟩ := ppget (j := j) t (by simpa using h)
    exact ⟨y, by simpa using h1, h2⟩
/-- a dict's values, as its entries have them -/
theorem dict_vals {X : Cx} {pins : List (Addr × Obj)} {σ : L2.St} {H : Hp} {s : Shared} {a : Addr} {u : HO} (I : Inv X pins σ H s) (h : Rd H a u) (du : isDict u = true) :
    (a == sysModules) = false ∧ ∃ es ep, s.heap.DictRaw a es ep ∧ es.size = (valsV u).length ∧ es.size ≤ sizeLine ∧ ∀ (i : Nat) (hi : i < es.size), ∃ v, (valsV u)[i]? = some v ∧ RelV v es[i].val := by
  cases u with
  | dK kvs =>
    obtain ⟨z, hs, vs, kv, dd⟩ := dk_rd I.hok h
    have hl : kvs.length = vs.length := Paired.length kv
    obtain ⟨es, ep, raw, hsz, at'⟩ := dd.raw
    refine ⟨hs, es, ep, raw, by rw [hsz, ← hl]; simp [valsV], by rw [hsz, ← hl]; exact z, fun i hi => ?_⟩
    have hi1 : i < vs.length := by rw [← hsz]; exact hi
    obtain ⟨v, e1, r⟩ : ∃ p, kvs[i]? = some p ∧ RelV p.2 vs[i].2 := by
      obtain ⟨p, h1, h2⟩ := ppget kv (List.getElem?_eq_getElem hi1)
      exact ⟨p, h1, h2.2⟩
    obtain ⟨_, q⟩ := at' i hi vs[i].1 vs[i].2 (List.getElem?_eq_getElem hi1)
    refine ⟨v.2, by simp [valsV, e1], ?_⟩
    rw [q]; exact r
  | dT kvs =>
    obtain ⟨z, hs, xs, kv, dd⟩ := dt_rd I.hok h
    have hl : kvs.length = xs.length := Paired.length kv
    obtain ⟨es, ep, raw, hsz, at'⟩ := dd.raw
    refine ⟨hs, es, ep, raw, by rw [hsz, ← hl]; simp [valsV], by rw [hsz, ← hl]; exact z, fun i hi => ?_⟩
    obtain ⟨y, h1, _, h3, _⟩ := at' i hi
    obtain ⟨p, h4, h5⟩ := ppget kv h1
    refine ⟨p.2, by simp [valsV, h4], ?_⟩
    rw [h3]; exact h5.2.2
  | _ => cases du
def tVals (te : TE) : TE := fun σ H Q => te σ H fun x H1 => ∃ a u, x = .ref a ∧ Rd H1 a u ∧ isDict u = true ∧ ∀ p, H1 p = none → Q (.ref p) (upd H1 p (valuesO p a))
theorem pe_vals {te : TE} (he : PE X e te) (hbase : attributeBase e "values" X.env (eval e X.env) = eval e X.env := by rfl) (hline : (apos.endLine == cpos.line) = true := by rfl) : PE X (.Call (.Attribute e "values" apos) [] [] cpos) (tVals te) := by
  refine ⟨fun pins s σ H Q I h => ?_⟩
  refine wpAny_Call_method (T := "dict") (id := "dict.values") hbase rfl hline F.plainAttrs_dict F.slot_dict_values F.type_dict_values (thn (he.run pins s σ H _ I h) fun u s1 ⟨x, H1, I1, rx, a, ob, ex, hd, du, q⟩ => ?_)
  subst ex
  obtain rfl : u = Value.ref a := rx
  obtain ⟨hs, es, ep, raw, hsz, _, _⟩ := dict_vals I1 hd du
  have hn : ∀ b, Value.ref a = .ref b → ∃ ob, s1.heap.get? b = some ob ∧ ob.dict = none := fun b eb => by
    cases eb
    obtain ⟨o, ho, hx, _⟩ := raw
    exact ⟨o, ho, hx.2.1⟩
  refine ⟨raw.typeIs, hn, ?_⟩
  show wpAny _ _ (callWith cpos (.builtin "dict.values") [.ref a] [] []) _ X.xe s1
  have hf : H1 s1.heap.objs.size = none := I1.hok.fresh (Nat.le_refl _)
  have fin : EP X pins σ Q (.ref s1.heap.objs.size) { s1 with heap := s1.heap.push { cls := .type "dict_values", data := .fields #[.ref a] } } :=
    ⟨.ref s1.heap.objs.size, upd H1 s1.heap.objs.size (valuesO s1.heap.objs.size a), I1.laid (t' := s1.toks) (fun b u e => Heap.get?_push_of_some _ e) (Nat.le_refl _) (valuesO_ok (Heap.get?_push_size _ rfl)), rfl, q _ hf⟩
  exact method_meetsIn F.slot_dict_values F.entry_dict_values rfl (PySem.evalArgs_none ⟨rfl, raw.typeIs, F.args_dict_values_1 _, _, meets_dict_values_raw a hs, ⟨es, ep, raw⟩, fin⟩)
theorem call_listVals (hc : X.calm = true) : CallR X (.type "list") (fun xs H Q => ∃ p a u, xs = [.ref p] ∧ H p = some (valuesO p a) ∧ Rd H a u ∧ isDict u = true ∧ ∀ q, H q = none → Q (.ref q) (upd H q (.lst (valsV u)))) := by
  intro pins s σ H xs us Q I r h
  obtain ⟨p, a, u, rfl, hp, hd, du, q⟩ := h
  obtain rfl := Vals.ref1 r
  obtain ⟨hs, es, ep, raw, hsz, hle, at'⟩ := dict_vals I hd du
  have view : s.heap.IsValuesView p a := (I.hok p _ hp).1
  refine PySem.W.kdl_call (PySem.KdlSrc.rawValues (es := es) (ep := ep)) (I.ok.hd hc) ⟨view, raw⟩ hle fun h' tk acc c' hk hn hacc => ?_
  have hf : H s.heap.objs.size = none := I.hok.fresh (Nat.le_refl _)
  have hv : Vals (valsV u) acc.toList := by
    have h1 : (valsV u).length = acc.toList.length := (hsz.symm.trans hacc.1.symm).trans Array.length_toList.symm
    have at2 : ∀ i (hi : i < (valsV u).length) (hi2 : i < acc.toList.length), RelV (valsV u)[i] acc.toList[i] := fun i hi hi2 => by
      have hi3 : i < es.size := by rw [hsz]; exact hi
      obtain ⟨v, e1, e2⟩ := at' i hi3
      have e3 : acc[i]? = some acc.toList[i] := by
        rw [← Array.getElem?_toList]
        exact List.getElem?_eq_getElem hi2
      obtain ⟨_, e4⟩ := hacc.2 i _ e3
      rw [List.getElem?_eq_getElem hi] at e1
      rw [Option.some.inj e1, e4]
      exact e2
    have go : ∀ (xs : List V) (ys : List Value), xs.length = ys.length → (∀ i (hi : i < xs.length) (hi2 : i < ys.length), RelV xs[i] ys[i]) → Vals xs ys := by
      intro xs
      induction xs with
      | nil =>
        intro ys hl _
        cases ys with
        | nil => exact .nil
        | cons _ _ => cases hl
      | cons x xs ih =>
        intro ys hl ha
        cases ys with
        | nil => cases hl
        | cons y ys => exact .cons (ha 0 (by simp) (by simp)) (ih ys (by simpa using hl) fun i hi hi2 => ha (i + 1) (by simpa using hi) (by simpa using hi2))
    exact go _ _ h1 at2
  refine ⟨.ref s.heap.objs.size, upd H s.heap.objs.size (.lst (valsV u)), I.laid (t' := tk) (h' := h') (fun b o e => hk b o e) (Nat.le_refl _) ?_, rfl, q _ hf⟩
  exact ⟨by rw [← hsz]; exact hle, acc.toList, c', hv, by rw [Array.toArray_toList]; exact hn⟩
@[simp] def gVals : D → Option D
  | .dK kvs => some (.lst (kvs.map (·.2)))
  | .dT kvs => some (.lst (kvs.map (·.2)))
  | _ => none
theorem n_listVals (hc : X.calm = true) (hm : X.mg "list" = none) (he : PF X ct Wx e f) (hg : Gl X "list" := by rfl) (hbase : attributeBase e "values" X.env (eval e X.env) = eval e X.env := by rfl) (hline : (apos.endLine == cpos.line) = true := by rfl)
    (hs : starEach [.Call (.Attribute e "values" apos) [] [] cpos] X.env = (false, eval (.Call (.Attribute e "values" apos) [] [] cpos) X.env) :: starEach [] X.env := by rfl) (hv : bootBuiltins ("list" : Str) = some (.type "list") := by first | exact PySem.boot_list | decide +kernel) :
    PNf X ct Wx (.Call (.Name "list" p) [.Call (.Attribute e "values" apos) [] [] cpos] [] pos) (c1 gVals f) := by
  refine PE.fin (pe_callTy (call_listVals hc) hg hm hv (pa_cons (pe_vals he hbase hline) pa_nil hs) (by decide) (by decide) hs rfl) ?_
  rintro σ H Q l ⟨W0, H0, W, E, M, rel, p⟩
  refine ⟨W0, H0, W, E, M, rel, Post.bind p fun d M1 W1 H1 v _ x1 rel1 r1 l1 pp => ?_⟩
  clear p
  -- the dict, seen
  have z : ∃ a u ds, v = .ref a ∧ Rd H1 a u ∧ isDict u = true ∧ (∀ W' H', Ext0 W1 H1 W' H' → Reps (Gx X ct) W' H' ds (valsV u)) ∧ gVals (view M1 d) = some (.lst ds) := by
    rcases rel1.seen (.rep r1) with ⟨a, c, e1, e2, hc⟩ | ⟨e2, hr⟩
    · rw [e2] at pp ⊢
      cases c with
      | dK kvs => obtain ⟨vs, q, ek, rr⟩ := hc; exact ⟨a, .dK vs, _, e1, .inl q, rfl, fun W' H' x => rr.mono x, rfl⟩
      | dT kvs => obtain ⟨vs, q, ek, rr⟩ := hc; exact ⟨a, .dT vs, _, e1, .inl q, rfl, fun W' H' x => rr.mono x, rfl⟩
      | _ => exact pp.elim
    · rw [e2] at pp ⊢
      cases hr with
      | @dK a vs kvs zz h ek rr => exact ⟨a, .dK vs, _, rfl, h, rfl, fun W' H' x => rr.mono x, rfl⟩
      | @dT a vs kvs zz h ek rr => exact ⟨a, .dT vs, _, rfl, h, rfl, fun W' H' x => rr.mono x, rfl⟩
      | _ => exact pp.elim
  obtain ⟨a, u, ds, rfl, hr, du, rs, hv2⟩ := z
  rw [hv2] at pp
  refine ⟨a, u, rfl, hr, du, fun p hp => ⟨p, a, u, rfl, upd_same, ?_, du, fun q hq => ?_⟩⟩
  · have ne : a ≠ p := fun z => by
      subst z
      rcases hr with hr | ⟨o, hr⟩
      · rw [hp] at hr; cases hr
      · rw [hp] at hr; cases hr
    rcases hr with hr | ⟨o, hr⟩
    · exact .inl (by rw [upd_ne ne]; exact hr)
    · exact .inr ⟨o, by rw [upd_ne ne]; exact hr⟩
  · intro l2
    have xa := Ext.new (o := valuesO p a) rel1.toCRel hp
    have ra := rel1.after xa (rel1.toCRel.new hp)
    have xb := Ext.new (o := .lst (valsV u)) ra.toCRel hq
    have rb := ra.after xb (ra.toCRel.new hq)
    have xab := Ext.trans ra.toCRel xa xb
    exact pp W1 _ _ xab rb ⟨q, .lst ds, rfl, rfl, ⟨_, upd_same, rs _ _ xab.toExt0⟩, Aside.new ra hq, rel1.toCRel.was x1 (ra.toCRel.was xa hq)⟩ l2

/-! ### {k: v}, k a tuple -/
@[simp] def cDT1 (fk fv : CE) : CE := fun E M => (fk E M).bind fun k M => (fv E M).bind fun d M => match k with
  | .tup ks => match keysOf ks with
    | some ks => .ok (.dT [(ks, d)]) M
    | none => .bad
  | _ => .bad
def tDisp1T (tk tv : TE) : TE := fun σ H Q => ∀ p, H p = none → tk σ (upd H p (.dT [])) fun x H1 => tv σ H1 fun y H2 => H2 p = some (.dT []) ∧ ∃ b ks, x = .ref b ∧ H2 b = some (.tup (ks.map kV)) ∧ Q (.ref p) (upd H2 p (.dT [(ks, y)]))
theorem pe_disp1T {ek ev : Expr} {tk tv : TE} (hu : X.A.units + 1 < cLine) (hk : PE X ek tk) (hv : PE X ev tv) : PE X (.Dict [some ek] [ev] pos) (tDisp1T tk tv) := by
  refine ⟨fun pins s σ H Q I q => ?_⟩
  have hn := I.hok.fresh (Nat.le_refl s.heap.objs.size)
  have I1 := I.laid (a := s.heap.objs.size) (o := .dT []) (h' := s.heap.push { cls := .type "dict", data := .dict #[] }) (t' := s.toks) (fun _ _ q => Heap.get?_push_of_some _ q) (Nat.le_refl _) (dt_empty s.heap I.big)
  refine wpAny_Dict_any (by rfl) (by rfl) (by simp) (by show 1 ≤ 15; decide) (pairTrees_cons_walk (thn (hk.run pins _ σ _ _ I1 (q _ hn)) fun kv s2 ⟨x, H2, I2, rx, q2⟩ => thn (hv.run pins _ σ _ _ I2 q2) fun vv s3 ⟨y, H3, I3, ry, e, b, ks, ex, eb, q3⟩ => pairTrees_nil_walk ?_))
  subst ex
  obtain rfl : kv = Value.ref b := rx
  unfold storeAll
  rw [List.forIn_cons]
  obtain ⟨z, hd, xs, rel, dd⟩ := dt_of I3.hok e
  cases rel
  refine wpAny_bind (wpAny_bind (wpAny_dictSet_heap (hsz := Nat.zero_le _) (knd := tupleKind (mixKind X.prog X.w)) (Nat.lt_of_succ_lt hu) (key_of I3.hok eb) dd fun h' dd' hs => wpAny_pure ?_))
  show wpAny _ _ (forIn ([] : List (Value × Value)) PUnit.unit _) _ _ _
  rw [List.forIn_nil]
  refine wpAny_pure ?_
  obtain ⟨q, es, ep, hq, h2, h3, h4, _, h5⟩ := dd'
  refine ⟨.ref s.heap.objs.size, upd H3 s.heap.objs.size (.dT [(ks, y)]), d_write (ob := .dT [(ks, y)]) I3 (by rw [e]; exact True.intro) hs ⟨q, hq⟩ ⟨by show 1 ≤ 16777216; decide, hd, _, Paired.cons ⟨rfl, ?_, ry⟩ .nil, q, es, ep, hq, h2, h3, h4, h5⟩, rfl, q3⟩
  rw [upd_ne (ne_of eb e (fun z => nomatch z))]
  exact eb
theorem Post.bindU {G : Gm} {Wx : WX} {W0 W Wa : Wd} {H0 H Ha : Hp} {σ : L2.St} {E : Env} {M : Mem} {α β γ δ : Type} {Rp : Wd → Hp → α → β → Prop} {Rq : Wd → Hp → γ → δ → Prop} {r : R γ} {k : γ → Mem → R α} {Q : β → Hp → Prop} {Q' : δ → Hp → Prop} (x : Ext W H Wa Ha) (ra : Rel G W0 H0 Wa σ Ha E M)
    (h : Post G Wx Rp W0 H0 W H σ E (r.bind k) Q) (hk : ∀ d M1 W1 H1 v, r = .ok d M1 → Ext Wa Ha W1 H1 → Rel G W0 H0 W1 σ H1 E M1 → Rq W1 H1 d v → LenOk H1 → Post G Wx Rp W0 H0 W H σ E (k d M1) Q → Q' v H1) : Post G Wx Rq W0 H0 Wa Ha σ E r Q' := by
  cases r with
  | ok d M1 => exact fun W' H' v x r p l => hk d M1 W' H' v rfl x r p l h
  | exc c ds M1 => exact fun W' H' C o x' r p l => h W' H' C o (Ext.trans ra.toCRel x x') r p l
  | bad => exact h
theorem Rel.asideP {G : Gm} {W0 W : Wd} {H0 H : Hp} {σ : L2.St} {E : Env} {M : Mem} {z : Addr} {cl : Cell} {o' : HO} (r : Rel G W0 H0 W σ H E M) (hn : H0 z = none) (hc : CellOk G W H z cl) (a : Aside W σ E z) : Rel G W0 H0 W σ (upd H z o') E M := by
  have x := Ext0.put (o' := o') hc a.z
  refine ⟨⟨r.len, fun l cl b h1 h2 => (r.cel l cl b h1 h2).mono x fun o ho => by rw [upd_ne (fun q => a.ph (by rw [← q]; exact List.mem_of_getElem? h2))]; exact ho, r.nd, r.sep, fun b zb => ?_⟩, ⟨r.ext.toExt0.trans x, r.ext.fr, r.ext.zn, fun b o e h1 h2 => ?_⟩, fun i s hs => ?_, r.sz, r.own⟩
  · rw [upd_ne (fun q => a.z (by rw [← q]; exact zb))]; exact r.zs b zb
  · rw [upd_ne (fun q => by subst q; rw [hn] at e; cases e)]; exact r.ext.keep b o e h1 h2
  · have q := r.slt i s hs
    cases s with
    | un => exact True.intro
    | sh d => obtain ⟨w, e2, h2⟩ := q; exact ⟨w, e2, h2.mono x⟩
    | ow c =>
      obtain ⟨b, e2, h2, n1, n2, n3⟩ := q
      exact ⟨b, e2, h2.mono x fun o ho => by rw [upd_ne (fun q => by subst q; exact a.ow i c hs e2)]; exact ho, n1, n2, n3⟩
theorem n_disp1T {ek ev : Expr} {fk fv : CE} (hu : X.A.units + 1 < cLine) (hk : PF X ct Wx ek fk) (hv : PF X ct Wx ev fv) : PNf X ct Wx (.Dict [some ek] [ev] pos) (cDT1 fk fv) := by
  refine PE.fin (pe_disp1T hu hk hv) ?_
  rintro σ H Q l ⟨W0, H0, W, E, M, rel, p⟩
  intro z hz
  have xa := Ext.new (o := .dT []) rel.toCRel hz
  have ra := rel.after xa (rel.toCRel.new hz)
  have la : LenOk (upd H z (.dT [])) := l.new hz (fun _ q => nomatch q) (fun _ q => nomatch q) fun _ _ q => nomatch q
  have as0 : Aside W σ E z := Aside.new rel hz
  refine ⟨W0, H0, W, E, M, ra, Post.bindU xa ra p fun d M1 W1 H1 v _ x1 rel1 r1 l1 p1 => ?_⟩
  refine ⟨W0, H0, W1, E, M1, rel1, Post.bindU (Ext.trans ra.toCRel xa x1) rel1 p1 fun d2 M2 W2 H2 v2 _ x2 rel2 r2 l2 p2 => ?_⟩
  clear p p1
  have e0 : upd H z (.dT []) z = some (.dT []) := upd_same
  have as1 := as0.mono x1 e0
  have e1 : H1 z = some (.dT []) := x1.keep z _ e0 as0.ph as0.z
  have as2 := as1.mono x2 e1
  have e2 : H2 z = some (.dT []) := x2.keep z _ e1 as1.ph as1.z
  have r1' := r1.mono x2.toExt0
  cases r1' with
  | @tup b vs ks hb rb =>
    dsimp only at p2
    cases qk : keysOf ks with
    | none => rw [qk] at p2; exact p2.elim
    | some key =>
      rw [qk] at p2
      refine ⟨e2, b, key, rfl, by rw [← reps_keys rb qk]; exact hb, fun l3 => ?_⟩
      have hc0 : CellOk (Gx X ct) W2 H2 z (.dT []) := ⟨[], e2, rfl, .nil⟩
      have xp := Ext0.put (o' := .dT [(key, v2)]) hc0 as2.z
      have z0 : H0 z = none := rel.toCRel.was rel.ext hz
      have rp := rel2.asideP (o' := .dT [(key, v2)]) z0 hc0 as2
      have xt : Ext W H W2 (upd H2 z (.dT [(key, v2)])) := by
        have xx := Ext.trans ra.toCRel xa (Ext.trans rel1.toCRel x1 x2)
        exact ⟨xx.toExt0.trans xp, xx.fr, xx.zn, fun b o h n1 n2 => by
          rw [upd_ne (fun q => by subst q; rw [hz] at h; cases h)]
          exact xx.keep b o h n1 n2⟩
      exact p2 _ _ _ xt rp ⟨z, .dT [(key, d2)], rfl, rfl, ⟨_, upd_same, rfl, .one (r2.mono xp)⟩, as2, hz⟩ l3
  | _ => exact p2.elim
end
end J
namespace J
open PySem PySem.Spec L2 PyProof.Rows

/-! ### names of the module -/
section
variable {X : Cx} {ct : List (Str × List Str)} {Wx : WX} {pos : Pos} {x : Str}
/-- a number of the module -/
structure NumX (mg : Str → Option Value) (x : Str) (i : Int) : Prop where
  ex : ∃ t, mg x = some (.int i t)
theorem pf_gl {i : Int} (h : NumX X.mg x i) (hg : Gl X x := by rfl) (hd : (x == ("__debug__" : Str)) = false := by decide) : PF X ct Wx (.Name x pos) (cC (.int i)) := by
  obtain ⟨t, h⟩ := h.ex
  exact pf_c (pe_glob (v := .int i) hg h ⟨t, rfl⟩ hd) fun W H => .int i
theorem pf_fn (h : ∃ a, X.mg x = some (.ref a)) (hg : Gl X x := by rfl) (hd : (x == ("__debug__" : Str)) = false := by decide) : PF X ct Wx (.Name x pos) (cC (.fn x)) := by
  obtain ⟨a, h⟩ := h
  exact pf_c (pe_glob (v := .ref a) hg h rfl hd) fun W H => .fn h
end

/-! ### the text's defs -/
section
variable {P : Program} {w : World} {K : PySem.W.Frag} {mg : Str → Option Value} {base : Heap} {ct : List (Str × List Str)} {k j : Nat} {x : Str} {n np : Nat} {F : Fn} {N ps : List Str} {st : Stmt} {s : CS} {c : Nat} {qual : Str}
structure FunX (K : PySem.W.Frag) (mg : Str → Option Value) (x : Str) (st : Stmt) (ps : List Str) : Prop where
  ex : ∃ f fd, mg x = some (.ref f) ∧ Fun K x x st f fd ∧ ∀ us : List Value, us.length = ps.length → bindArgs fd ⟨us, []⟩ = pure (ps.zip us)
structure MetX (K : PySem.W.Frag) (mg : Str → Option Value) (ct : List (Str × List Str)) (c : Nat) (x qual : Str) (st : Stmt) (ps : List Str) : Prop where
  ex : ∃ nm ns C f fd, ct[c]? = some (nm, ns) ∧ mg nm = some (.ref C) ∧ Cls K C ∧ x ∉ ns ∧ Meth K C x f ∧ Fun K x qual st f fd ∧ Binds K fd ps []
structure IniX (K : PySem.W.Frag) (mg : Str → Option Value) (ct : List (Str × List Str)) (c : Nat) (nm qual : Str) (st : Stmt) (ps : List Str) : Prop where
  ex : ∃ ns C f fd, ct[c]? = some (nm, ns) ∧ mg nm = some (.ref C) ∧ Mk K C f ∧ Fun K "__init__" qual st f fd ∧ Binds K fd ps []
abbrev DerF (P : Program) (w : World) (K : PySem.W.Frag) (mg : Str → Option Value) (base : Heap) (ct : List (Str × List Str)) (k : Nat) (qual : Str) (st : Stmt) (N : List Str) (s : CS) : Prop :=
  ∀ (f : Addr) (cdv : Value) (A : Around) (outer : List PySem.Env) (s0 : Shared) (H : Hp) (E : XK), Room k (A.deeper (envOfC qual (defScope st) s0.heap.objs.size f cdv)) →
      PSsf (cxOf (L2.CX P w) P w K mg base N qual (defScope st) f cdv A outer s0 H E) ct (fun cls d _ H => E cls d H) (defBody st) s
theorem def_ok (h : FunX K mg x st ps) (S : FnScope N ps (defScope st)) (hn : N.length = n) (hp : ps.length = np) (hle : np ≤ n) (H : DerF P w K mg base ct k x st N s) : DefOk P w K mg base ct (k + 1) x np (J.body n np s) := by
  obtain ⟨f, fd, h1, h2, h3⟩ := h.ex
  exact ⟨f, fd, ps, h1, h2.kp, .all h3, ok_body h2 S hn hp hle fun cdv A outer s0 Hh E hr => H f cdv A outer s0 Hh E hr⟩
theorem met_ok (h : MetX K mg ct c x qual st ps) (S : FnScope N ps (defScope st)) (hn : N.length = n) (hp : ps.length = np) (hle : np ≤ n) (H : DerF P w K mg base ct k qual st N s) : MetOk P w K mg base ct (k + 1) c x np (J.body n np s) := by
  obtain ⟨nm, ns, C, f, fd, h1, h2, h3, h4, h5, h6, h7⟩ := h.ex
  exact ⟨nm, ns, C, f, fd, ps, h1, h2, h3, h4, h5, h7, ok_body h6 S hn hp hle fun cdv A outer s0 Hh E hr => H f cdv A outer s0 Hh E hr⟩
theorem ini_ok {nm : Str} (h : IniX K mg ct c nm qual st ps) (S : FnScope N ps (defScope st)) (hn : N.length = n) (hp : ps.length = np) (hle : np ≤ n) (H : DerF P w K mg base ct k qual st N s) : IniOk P w K mg base ct (k + 1) c nm np (J.body n np s) := by
  obtain ⟨ns, C, f, fd, h1, h2, h5, h6, h7⟩ := h.ex
  exact ⟨ns, C, f, fd, ps, h1, h2, h5, h7, ok_body h6 S hn hp hle fun cdv A outer s0 Hh E hr => H f cdv A outer s0 Hh E hr⟩
/-- nothing is promised -/
theorem fn_no {f : Addr} {fd : FuncData} {G : Gm} {CX : CXT} : FnOk P w K mg base CX k f fd ps (spF G n noF) :=
  ⟨fun vs H Q E h => by obtain ⟨W, M, ds, _, _, _, z⟩ := h; exact z.elim, fun A outer s H args us vs Q E _ _ _ _ h => by obtain ⟨W, M, ds, _, _, _, z⟩ := h; exact z.elim⟩
theorem def_no (h : FunX K mg x st ps) : DefOk P w K mg base ct k x np noF := by
  obtain ⟨f, fd, h1, h2, h3⟩ := h.ex
  exact ⟨f, fd, ps, h1, h2.kp, .all h3, fn_no⟩
theorem met_no (h : MetX K mg ct c x qual st ps) : MetOk P w K mg base ct k c x np noF := by
  obtain ⟨nm, ns, C, f, fd, h1, h2, h3, h4, h5, h6, h7⟩ := h.ex
  exact ⟨nm, ns, C, f, fd, ps, h1, h2, h3, h4, h5, h7, fn_no⟩
theorem DefOk.scp (h : DefOk P w K mg base ct k x n F) : DefOk P w K mg base ct k x n (J.scp F) := by
  obtain ⟨f, fd, ps, h1, h2, h3, h4⟩ := h.ex
  exact ⟨f, fd, ps, h1, h2, h3, h4.imp fun _ _ _ _ q => spF_scp q⟩
theorem MetOk.scp (h : MetOk P w K mg base ct k c x n F) : MetOk P w K mg base ct k c x n (J.scp F) := by
  obtain ⟨nm, ns, C, f, fd, ps, h1, h2, h3, h4, h5, h6, h7⟩ := h.ex
  exact ⟨nm, ns, C, f, fd, ps, h1, h2, h3, h4, h5, h6, h7.imp fun _ _ _ _ q => spF_scp q⟩

/-! ### from the head's facts -/
theorem funX_mk {h : Heap} {f : Addr} {oc : Value} {od an : Option Addr} {osl : Array (Option Value)} {kV doc pm cdv ct : Value} (X : K.In h) (G : h.Ns mainGlobals mg) (a : PySem.W.nsIn K mainGlobals x = some (some (.ref f)))
    (l : K.lookup f = some ⟨oc, od, .func (PySem.W.fnOf x x (defArgs st) (defBody st) (defScope st) .none kV doc pm an cdv ct), osl⟩) (cc : PySem.W.codeIn K cdv x = true) (k : PySem.W.keepIn K (.ref f) = true)
    (hb : ∀ (kV doc pm : Value) (an : Option Addr) (cdv ct : Value) (us : List Value), us.length = ps.length → bindArgs (PySem.W.fnOf x x (defArgs st) (defBody st) (defScope st) .none kV doc pm an cdv ct) ⟨us, []⟩ = pure (ps.zip us)) : FunX K mg x st ps :=
  ⟨f, _, PySem.W.mg_of X G a, fun_mk l cc k, hb kV doc pm an cdv ct⟩
theorem metX_mk {h : Heap} {f C : Addr} {nm : Str} {ns : List Str} {oc : Value} {od an : Option Addr} {osl : Array (Option Value)} {kV doc pm cdv ctt : Value} (X : K.In h) (G : h.Ns mainGlobals mg) (hc : ct[c]? = some (nm, ns)) (aC : PySem.W.nsIn K mainGlobals nm = some (some (.ref C))) (cl : Cls K C) (hx : x ∉ ns)
    (a : PySem.W.findIn K (.ref C) x = some (some (.ref f))) (i : PySem.W.isFn K (.ref f) = true) (l : K.lookup f = some ⟨oc, od, .func (PySem.W.fnOf x qual (defArgs st) (defBody st) (defScope st) .none kV doc pm an cdv ctt), osl⟩) (cc : PySem.W.codeIn K cdv qual = true) (k : PySem.W.keepIn K (.ref f) = true)
    (hb : ∀ (kV doc pm : Value) (an : Option Addr) (cdv ct : Value) (us : List Value), us.length = ps.length → bindArgs (PySem.W.fnOf x qual (defArgs st) (defBody st) (defScope st) .none kV doc pm an cdv ct) ⟨us, []⟩ = pure (ps.zip us)) : MetX K mg ct c x qual st ps :=
  ⟨nm, ns, C, f, _, hc, PySem.W.mg_of X G aC, cl, hx, ⟨a, i, k⟩, fun_mk l cc k, (fun_mk l cc k).binds hb⟩
theorem iniX_mk {h : Heap} {f C : Addr} {nm : Str} {ns : List Str} {oc : Value} {od an : Option Addr} {osl : Array (Option Value)} {kV doc pm cdv ctt : Value} (X : K.In h) (G : h.Ns mainGlobals mg) (hc : ct[c]? = some (nm, ns)) (aC : PySem.W.nsIn K mainGlobals nm = some (some (.ref C))) (mk : PySem.W.makesIn K C = true) (kc : PySem.W.keepIn K (.ref C) = true)
    (a : PySem.W.findIn K (.ref C) "__init__" = some (some (.ref f))) (i : PySem.W.isFn K (.ref f) = true) (l : K.lookup f = some ⟨oc, od, .func (PySem.W.fnOf "__init__" qual (defArgs st) (defBody st) (defScope st) .none kV doc pm an cdv ctt), osl⟩) (cc : PySem.W.codeIn K cdv qual = true) (k : PySem.W.keepIn K (.ref f) = true)
    (hb : ∀ (kV doc pm : Value) (an : Option Addr) (cdv ct : Value) (us : List Value), us.length = ps.length → bindArgs (PySem.W.fnOf "__init__" qual (defArgs st) (defBody st) (defScope st) .none kV doc pm an cdv ct) ⟨us, []⟩ = pure (ps.zip us)) : IniX K mg ct c nm qual st ps :=
  ⟨ns, C, f, _, hc, PySem.W.mg_of X G aC, ⟨mk, a, i, kc⟩, fun_mk l cc k, (fun_mk l cc k).binds hb⟩
def noB : Option (Option Value) → Bool
  | some none => true
  | _ => false
theorem noB_eq : ∀ {o : Option (Option Value)}, noB o = true → o = some none
  | some none, _ => rfl
theorem clsX_mk {h : Heap} {C : Addr} {nm : Str} {ns : List Str} (X : K.In h) (G : h.Ns mainGlobals mg) (hc : ct[c]? = some (nm, ns)) (aC : PySem.W.nsIn K mainGlobals nm = some (some (.ref C))) (cl : Cls K C) (nd : ns.Nodup) (hl : ns.length < 1000) (no : ∀ f ∈ ns, PySem.W.findIn K (.ref C) f = some none) : ClsX K mg ct c :=
  ⟨nm, ns, C, hc, PySem.W.mg_of X G aC, cl, nd, hl, no⟩
theorem no_nil {K : PySem.W.Frag} {C : Addr} : ∀ f ∈ ([] : List Str), PySem.W.findIn K (.ref C) f = some none := fun _ h => nomatch h
theorem no_cons {K : PySem.W.Frag} {C : Addr} {g : Str} {ns : List Str} (h : PySem.W.findIn K (.ref C) g = some none) (t : ∀ f ∈ ns, PySem.W.findIn K (.ref C) f = some none) : ∀ f ∈ g :: ns, PySem.W.findIn K (.ref C) f = some none := fun f hf => by
  rcases List.mem_cons.mp hf with e | e
  · rw [e]; exact h
  · exact t f e
theorem num_mk {h : Heap} {i : Int} {t : Tok} (X : K.In h) (G : h.Ns mainGlobals mg) (a : PySem.W.nsIn K mainGlobals x = some (some (.int i t))) : NumX mg x i := ⟨t, PySem.W.mg_of X G a⟩
theorem num_loose {h : Heap} {i : Int} {lv : List (Str × PySem.W.WData)} (V : PySem.W.LooseAre lv mg h) (hm : (x, PySem.W.WData.int i) ∈ lv) : NumX mg x i := by
  obtain ⟨v, h1, h2⟩ := V.val _ hm
  cases h2 with
  | int i t => exact ⟨t, h1⟩
end

/-- the law's def for every base -/
theorem law_fn {P : Program} {w : World} {K : PySem.W.Frag} {mg : Str → Option Value} {ct : List (Str × List Str)} {k n : Nat} {x y : Str} {N : List Str} {s : CS} {st : Stmt} (h : FunX K mg x st [y]) (S : FnScope N [y] (defScope st)) (hn : N.length = n) (hle : 1 ≤ n) (H : ∀ base, DerF P w K mg base ct k x st N s) :
    ∃ (f : Addr) (fd : FuncData), mg x = some (.ref f) ∧ (∀ (s : Shared) (u : Value), BindsTo s fd ⟨[u], []⟩ [(y, u)]) ∧ ∀ base : Heap, K.In base → base.Ns mainGlobals mg → FnOk P w K mg base (L2.CX P w) (k + 1) f fd [y] (spF ⟨K, mg, ct⟩ 1 (J.body n 1 s)) := by
  obtain ⟨f, fd, h1, h2, h3⟩ := h.ex
  exact ⟨f, fd, h1, fun s u => .of_eq (h3 [u] rfl), fun base _ _ => ok_body h2 S hn rfl hle fun cdv A outer s0 Hh E hr => H base f cdv A outer s0 Hh E hr⟩
/-! ### the law -/
theorem walk {l : PySem.W.OpenLaw} {n k : Nat} {q : Program} {loose : List Str} {XP : (Str → Option Value) → Heap → Prop} {YP : World → Heap → Prop} {d : DefRec} {K : Params → PySem.W.Frag} {x : Str} {ct : List (Str × List Str)} {F : Fn}
    (hn : l.most = some n) (hn2 : n ≤ sizeLine) (hdf : d.params.defaults = []) (hr : Room k callerA)
    (hY : ∀ (w : World) (h : Heap), YP w h → (K w.params).In h)
    (hF : ∀ (w : World) (mg : Str → Option Value) (h : Heap), (K w.params).In h → h.Ns mainGlobals mg → XP mg h →
      ∃ (f : Addr) (fd : FuncData), mg d.name = some (.ref f) ∧ (∀ (s : Shared) (u : Value), BindsTo s fd ⟨[u], []⟩ [(x, u)]) ∧
        ∀ base : Heap, (K w.params).In base → base.Ns mainGlobals mg → FnOk l.prog w (K w.params) mg base (L2.CX l.prog w) k f fd [x] (spF ⟨K w.params, mg, ct⟩ 1 F))
    (law : ∀ ns : List Int, ns.length ≤ n → ∃ M, F [.scr (ns.map .int)] [] = .ok (.bl true) M) :
    PySem.W.WalkO q loose XP YP l.row.toRowW d [] (fun f vs => PySem.call f vs) := by
  refine Att.attach_call hn hdf fun w s₀ s₁ mg mb fa o pm cd doc a vs ns G Y ho hd hcd hmg hobj hints hlen hg => ?_
  have KX := hY w _ Y
  obtain ⟨f, fd, hmf, hb, hFn⟩ := hF w mg _ KX G.T.g G.X
  rw [hmg] at hmf
  cases hmf
  refine law_call KX G.T.g G.T.b G.T.builtins G.T.nolimit hg hobj hints (Nat.le_trans hlen hn2) hr hFn hb (fun H hO hS => ?_) fun H e s' h => ?_
  · obtain ⟨M, hM⟩ := law ns hlen
    refine ⟨⟨[], fun _ => False⟩, [], [.scr (ns.map .int)], ⟨rfl, fun l c a h => by simp at h, List.nodup_nil, fun a h => by simp at h, fun a h => h.elim⟩, .cons (.scr (vs := ns.map V.int) ?_ ?_) .nil, rfl, ?_⟩
    · rcases hS with (hS | ⟨o2, hS⟩) | hS
      · exfalso
        rcases hO a with q | ⟨o2, xs, q⟩
        · rw [q] at hS; cases hS
        · rw [q] at hS; cases hS
      · exact .inl ⟨o2, hS⟩
      · exact .inr hS
    · have : ∀ ns : List Int, Reps (⟨K w.params, mg, ct⟩ : Gm) ⟨[], fun _ => False⟩ H (ns.map D.int) (ns.map V.int) := by
        intro ns
        induction ns with
        | nil => exact .nil
        | cons n ns ih => exact .cons (.int n) ih
      exact this ns
    · rw [hM]
      intro W' H' v _ _ r _
      cases r
      rfl
  · obtain ⟨_, _, _, _, _, _, _, _, _, _, _, _, z⟩ := h
    exact z

/-! ### tables of defs -/
section
variable {P : Program} {w : World} {K : PySem.W.Frag} {mg : Str → Option Value} {base : Heap} {ct : List (Str × List Str)} {k : Nat} {n : Nat}
theorem tab_nil : ∀ x F, tabL [] x = some F → DefOk P w K mg base ct k x n F := fun _ _ h => nomatch h
theorem tab_cons {y : Str} {F : Fn} {r : List (Str × Fn)} (h : DefOk P w K mg base ct k y n F) (t : ∀ x F, tabL r x = some F → DefOk P w K mg base ct k x n F) : ∀ x F', tabL ((y, F) :: r) x = some F' → DefOk P w K mg base ct k x n F' := fun x F' q => by
  unfold tabL at q
  by_cases e : x = y
  · rw [if_pos e] at q; cases q; subst e; exact h
  · rw [if_neg e] at q; exact t x F' q
end
theorem bb_len : bootBuiltins "len" = some (.builtin "len") := by first | exact PySem.boot_len | exact PyProof.Rows.boot_len | decide +kernel
theorem bb_sum : bootBuiltins "sum" = some (.builtin "sum") := by first | exact PySem.boot_sum | exact PyProof.Rows.boot_sum | decide +kernel
theorem bb_min : bootBuiltins "min" = some (.builtin "min") := by first | exact PySem.boot_min | exact PyProof.Rows.boot_min | decide +kernel
theorem bb_max : bootBuiltins "max" = some (.builtin "max") := by first | exact PySem.boot_max | exact PyProof.Rows.boot_max | decide +kernel
theorem bb_all : bootBuiltins "all" = some (.builtin "all") := by first | exact PySem.boot_all | exact PyProof.Rows.boot_all | decide +kernel
theorem bb_any : bootBuiltins "any" = some (.builtin "any") := by first | exact PySem.boot_any | exact PyProof.Rows.boot_any | decide +kernel
theorem bb_abs : bootBuiltins "abs" = some (.builtin "abs") := by first | exact PySem.boot_abs | exact PyProof.Rows.boot_abs | decide +kernel
theorem bb_isinstance : bootBuiltins "isinstance" = some (.builtin "isinstance") := by first | exact PySem.boot_isinstance | exact PyProof.Rows.boot_isinstance | decide +kernel
theorem bb_sorted : bootBuiltins "sorted" = some (.builtin "sorted") := by first | exact PySem.boot_sorted | exact PyProof.Rows.boot_sorted | decide +kernel
theorem bb_int : bootBuiltins "int" = some (.type "int") := by first | exact PySem.boot_int | exact PyProof.Rows.boot_int | decide +kernel
theorem bb_bool : bootBuiltins "bool" = some (.type "bool") := by first | exact PySem.boot_bool | exact PyProof.Rows.boot_bool | decide +kernel
theorem bb_str : bootBuiltins "str" = some (.type "str") := by first | exact PySem.boot_str | exact PyProof.Rows.boot_str | decide +kernel
theorem bb_list : bootBuiltins "list" = some (.type "list") := by first | exact PySem.boot_list | exact PyProof.Rows.boot_list | decide +kernel
theorem bb_tuple : bootBuiltins "tuple" = some (.type "tuple") := by first | exact PySem.boot_tuple | exact PyProof.Rows.boot_tuple | decide +kernel
theorem bb_dict : bootBuiltins "dict" = some (.type "dict") := by first | exact PySem.boot_dict | exact PyProof.Rows.boot_dict | decide +kernel
theorem bb_set : bootBuiltins "set" = some (.type "set") := by first | exact PySem.boot_set | exact PyProof.Rows.boot_set | decide +kernel
theorem bb_enumerate : bootBuiltins "enumerate" = some (.type "enumerate") := by first | exact PySem.boot_enumerate | exact PyProof.Rows.boot_enumerate | decide +kernel
theorem bb_zip : bootBuiltins "zip" = some (.type "zip") := by first | exact PySem.boot_zip | exact PyProof.Rows.boot_zip | decide +kernel
theorem bb_range : bootBuiltins "range" = some (.type "range") := by first | exact PySem.boot_range | exact PyProof.Rows.boot_range | decide +kernel
end J
namespace J
open PySem PySem.Spec L2 PyProof.Rows

/-! ### zip of a list or tuple with a list or tuple -/
def SrcIs (t : Bool) (h : Heap) (l : Addr) (xs : Array Value) : Prop := if t then h.IsTuple l xs else h.IsList l xs
def SitIs (t : Bool) (h : Heap) (it l : Addr) (k : Nat) : Prop := if t then h.IsTupleIter it l k else h.IsListIter it l k
theorem SrcIs.up {t h h' l xs} (x : SrcIs t h l xs) (e : ∀ o, h.get? l = some o → h'.get? l = some o) : SrcIs t h' l xs := by
  cases t with
  | true => exact Heap.IsTuple.at (h := h) x e
  | false => exact Heap.IsList.at (h := h) x e
theorem SitIs.up {t h h' it l k} (x : SitIs t h it l k) (e : ∀ o, h.get? it = some o → h'.get? it = some o) : SitIs t h' it l k := by
  cases t with
  | true => exact Heap.IsTupleIter.at (h := h) x e
  | false => exact Heap.IsListIter.at (h := h) x e
theorem SrcIs.lt {t h l xs} (x : SrcIs t h l xs) : l < h.objs.size := by
  cases t with
  | true => obtain ⟨o, q, _⟩ := (show h.IsTuple l xs from x); exact Heap.lt_size q
  | false => obtain ⟨o, q, _⟩ := (show h.IsList l xs from x); exact Heap.lt_size q
theorem SitIs.obj {t h it l k} (x : SitIs t h it l k) : ∃ o, h.get? it = some o ∧ o.data = .fields #[.ref l, .int k 0] := by
  cases t with
  | true => obtain ⟨o, q, _, d⟩ := (show h.IsTupleIter it l k from x); exact ⟨o, q, d⟩
  | false => obtain ⟨o, q, _, d⟩ := (show h.IsListIter it l k from x); exact ⟨o, q, d⟩
section
variable {prog : Program} {w : World} {A : Around} {E : Value → Shared → Prop} {s : Shared}
theorem nextIt {t : Bool} {it l : Addr} {i : Nat} {xs : Array Value} {x : Value} {Q : Value → Shared → Prop} (a1 : SitIs t s.heap it l i) (a2 : SrcIs t s.heap l xs) (a3 : xs[i]? = some x)
    (q : ∀ h', SitIs t h' it l (i + 1) → Heap.SameBut it s.heap h' → Q x { s with heap := h' }) : wpAny (model prog w) A (Builtin.SmallTypes.nextOf (.ref it)) Q E s := by
  cases t with
  | true => exact RZ.nextOf_tuple_item a1 a2 a3 q
  | false => exact wpAny_nextOf_list_item a1 a2 a3 q
theorem nextNo {t : Bool} {it l : Addr} {i : Nat} {xs : Array Value} {Q : Value → Shared → Prop} (hh : A.handled = none) (a1 : SitIs t s.heap it l i) (a2 : SrcIs t s.heap l xs) (a3 : xs[i]? = none)
    (q : ∀ h' e, Heap.ExtBut it s.heap h' → (∃ o, h'.get? e = some o ∧ o.cls = .type "StopIteration") → E (.ref e) { s with heap := h' }) : wpAny (model prog w) A (Builtin.SmallTypes.nextOf (.ref it)) Q E s := by
  cases t with
  | true => exact RZ.nextOf_tuple_end hh a1 a2 a3 q
  | false => exact wpAny_nextOf_list_end hh a1 a2 a3 q

/-- the four places that a zip's step may change -/
def But4 (z TO i1 i2 : Addr) (h h' : Heap) : Prop := ∀ c o, c ≠ z → c ≠ TO → c ≠ i1 → c ≠ i2 → h.get? c = some o → h'.get? c = some o

theorem zip_step {t1 t2 : Bool} {z TI TO i1 i2 l1 l2 : Addr} {k1 k2 : Nat} {xs ys : Array Value} {a b : Value} {Q : Fin → Shared → Prop} (hh : A.handled = none) (D : ZipApart z TI TO i1 i2 l1 l2)
    (qz : IsZip s.heap z TI TO .none) (pI : IsPair s.heap TI (.ref i1) (.ref i2)) (pO : IsPair s.heap TO a b)
    (m1 : SitIs t1 s.heap i1 l1 k1) (m2 : SitIs t2 s.heap i2 l2 k2) (n1 : SrcIs t1 s.heap l1 xs) (n2 : SrcIs t2 s.heap l2 ys)
    (go : ∀ x y, xs[k1]? = some x → ys[k2]? = some y → ∀ h', IsZip h' z TI TO (rawInt s.heap.objs.size) → IsPair h' TO x y → SitIs t1 h' i1 l1 (k1 + 1) → SitIs t2 h' i2 l2 (k2 + 1) → IsPair h' s.heap.objs.size x y →
      h'.objs.size = s.heap.objs.size + 1 → But4 z TO i1 i2 s.heap h' → Q (.done (.ret (.ref s.heap.objs.size))) { s with heap := h' })
    (no : (xs[k1]? = none ∨ ys[k2]? = none) → ∀ h' e, But4 z TO i1 i2 s.heap h' → (∃ o, h'.get? e = some o ∧ o.cls = .type "StopIteration") → E (.ref e) { s with heap := h' }) :
    wpAny (model prog w) A (Builtin.«zip.__next__» ⟨[.ref z], []⟩) Q E s := by
  show wpAny (model prog w) A (field (.ref z) 2 >>= _) Q E s
  refine wpAny_bind (wpAny_field qz rfl (x := .bool false) rfl ?_)
  show wpAny (model prog w) A (field (.ref z) 3 >>= _) Q E s
  refine wpAny_bind (wpAny_field qz rfl (x := .ref TI) rfl ?_)
  refine wpAny_bind (wpAny_seqItems pI rfl ?_)
  show wpAny (model prog w) A (Builtin.SmallTypes.ownedTupleIsFree (.ref z) >>= _) Q E s
  refine wpAny_bind ?_; unfold Builtin.SmallTypes.ownedTupleIsFree
  refine wpAny_bind (wpAny_field qz rfl (x := .none) rfl (wpAny_pure ?_))
  simp only [if_true]
  refine wpAny_bind (wpAny_rule ?_)
  refine wpAny_bind (wpAny_field qz rfl (x := .ref TO) rfl ?_)
  refine wpAny_bind (wpAny_setField_rec qz (by simp) fun g1 z1 b1 => ?_)
  have z1 : IsZip g1 z TI TO .ellipsis := z1
  refine wpAny_bind ?_
  simp only [List.forIn_cons, List.forIn_nil, List.zipIdx_cons, List.zipIdx_nil]
  refine wpAny_bind (wpAny_bind (wpAny_onRaise ?_))
  show wpAny (model prog w) _ (Builtin.SmallTypes.nextOf (.ref i1) >>= _) _ _ _
  have m1a : SitIs t1 g1 i1 l1 k1 := m1.up fun o e => b1.extBut _ _ D.i1z e
  have n1a : SrcIs t1 g1 l1 xs := n1.up fun o e => b1.extBut _ _ D.l1z e
  cases hx : xs[k1]? with
  | none =>
    refine wpAny_bind (nextNo hh m1a n1a hx fun g2 e b2 he => ?_)
    obtain ⟨oe, he, ce⟩ := he
    have z2 : IsZip g2 z TI TO .ellipsis := b2 _ _ D.i1z.symm z1
    have ez : e ≠ z := fun q => by subst q; rw [z2] at he; cases he; simp at ce
    exact wpAny_setField_rec z2 (by simp) fun g3 _ b3 => no (.inl hx) g3 e (fun c o c1 _ c3 _ q => b3.extBut _ _ c1 (b2 _ _ c3 (b1.extBut _ _ c1 q))) ⟨oe, b3.extBut _ _ ez he, ce⟩
  | some x =>
    refine wpAny_bind (nextIt m1a n1a hx fun g2 m1b b2 => wpAny_pure ?_)
    have pO2 : IsPair g2 TO a b := b2.extBut _ _ D.TOi1 (b1.extBut _ _ D.TOz pO)
    refine wpAny_bind (wpAny_seqItems pO2 rfl ?_)
    refine wpAny_bind (wpAny_updateSeq_pair pO2 fun g3 pO3 b3 => ?_)
    have pO3 : IsPair g3 TO x b := pO3
    refine wpAny_bind (wpAny_letGo (wpAny_pure ?_))
    refine wpAny_bind (wpAny_bind (wpAny_onRaise ?_))
    show wpAny (model prog w) _ (Builtin.SmallTypes.nextOf (.ref i2) >>= _) _ _ _
    have up3 : ∀ {c o}, c ≠ z → c ≠ i1 → c ≠ TO → s.heap.get? c = some o → g3.get? c = some o := fun c1 c2 c3 q => b3.extBut _ _ c3 (b2.extBut _ _ c2 (b1.extBut _ _ c1 q))
    have m2a : SitIs t2 g3 i2 l2 k2 := m2.up fun o e => up3 D.i2z D.i12.symm D.TOi2.symm e
    have n2a : SrcIs t2 g3 l2 ys := n2.up fun o e => up3 D.l2z D.l2i1 D.l2TO e
    have z3 : IsZip g3 z TI TO .ellipsis := b3.extBut _ _ D.TOz.symm (b2.extBut _ _ D.i1z.symm z1)
    cases hy : ys[k2]? with
    | none =>
      refine wpAny_bind (nextNo hh m2a n2a hy fun g4 e b4 he => ?_)
      obtain ⟨oe, he, ce⟩ := he
      have z4 : IsZip g4 z TI TO .ellipsis := b4 _ _ D.i2z.symm z3
      have ez : e ≠ z := fun q => by subst q; rw [z4] at he; cases he; simp at ce
      exact wpAny_setField_rec z4 (by simp) fun g5 _ b5 => no (.inr hy) g5 e (fun c o c1 c2 c3 c4 q => b5.extBut _ _ c1 (b4 _ _ c4 (up3 c1 c3 c2 q))) ⟨oe, b5.extBut _ _ ez he, ce⟩
    | some y =>
      refine wpAny_bind (nextIt m2a n2a hy fun g4 m2b b4 => wpAny_pure ?_)
      have pO4 : IsPair g4 TO x b := b4.extBut _ _ D.TOi2 pO3
      refine wpAny_bind (wpAny_seqItems pO4 rfl ?_)
      refine wpAny_bind (wpAny_updateSeq_pair pO4 fun g5 pO5 b5 => ?_)
      have pO5 : IsPair g5 TO x y := pO5
      refine wpAny_bind (wpAny_letGo (wpAny_pure (wpAny_pure ?_)))
      refine wpAny_bind (wpAny_seqItems pO5 rfl ?_)
      refine wpAny_bind (wpAny_newTuple ?_)
      have sz : g5.objs.size = s.heap.objs.size := by rw [b5.1, b4.1, b3.1, b2.1, b1.1]
      have z5 : IsZip g5 z TI TO .ellipsis := b5.extBut _ _ D.TOz.symm (b4.extBut _ _ D.i2z.symm z3)
      have up5 : But4 z TO i1 i2 s.heap g5 := fun c o c1 c2 c3 c4 q => b5.extBut _ _ c2 (b4.extBut _ _ c4 (up3 c1 c3 c2 q))
      have m1c : SitIs t1 g5 i1 l1 (k1 + 1) := m1b.up fun o e => b5.extBut _ _ D.TOi1.symm (b4.extBut _ _ D.i12 (b3.extBut _ _ D.TOi1.symm e))
      have m2c : SitIs t2 g5 i2 l2 (k2 + 1) := m2b.up fun o e => b5.extBut _ _ D.TOi2.symm e
      have lz : z < g5.objs.size := Heap.lt_size z5
      show wpAny (model prog w) _ (Builtin.SmallTypes.ownedTupleHandOut (.ref z) (.ref g5.objs.size) >>= _) _ _ _
      refine wpAny_bind ?_; unfold Builtin.SmallTypes.ownedTupleHandOut
      have z6 : IsZip (g5.push { cls := .type "tuple", data := .seq #[x, y] }) z TI TO .ellipsis := Heap.get?_push_of_some _ z5
      refine wpAny_bind (wpAny_setField_rec z6 (by simp) fun g7 z7 b7 => ?_)
      have z7 : IsZip g7 z TI TO (rawInt g5.objs.size) := z7
      refine wpAny_setField_rec z7 (by simp) fun g8 z8 b8 => ?_
      have z8 : IsZip g8 z TI TO (rawInt g5.objs.size) := z8
      have up : ∀ c o, c ≠ z → g5.get? c = some o → g8.get? c = some o := fun c o c1 e => b8.extBut _ _ c1 (b7.extBut _ _ c1 (Heap.get?_push_of_some _ e))
      have T8 : IsPair g8 g5.objs.size x y := b8.extBut _ _ (Nat.ne_of_gt lz) (b7.extBut _ _ (Nat.ne_of_gt lz) (Heap.get?_push_size _ rfl))
      have s8 : g8.objs.size = g5.objs.size + 1 := by rw [b8.1, b7.1, Heap.size_push]
      rw [sz] at z8 T8 s8
      refine wpAny_pure ?_
      show Q (.done (.ret (.ref g5.objs.size))) _
      rw [sz]
      exact go x y (by first | exact hx | rfl) (by first | exact hy | rfl) g8 z8 (up _ _ D.TOz pO5) (m1c.up fun o e => up _ o D.i1z e) (m2c.up fun o e => up _ o D.i2z e) T8 s8 fun c o c1 c2 c3 c4 q => up c o c1 (up5 c o c1 c2 c3 c4 q)

theorem zip_next {t1 t2 : Bool} {z TI TO i1 i2 l1 l2 : Addr} {k1 k2 : Nat} {xs ys : Array Value} {a b : Value} {Q : Option Value → Shared → Prop} (hh : A.handled = none) (D : ZipApart z TI TO i1 i2 l1 l2)
    (qz : IsZip s.heap z TI TO .none) (pI : IsPair s.heap TI (.ref i1) (.ref i2)) (pO : IsPair s.heap TO a b)
    (m1 : SitIs t1 s.heap i1 l1 k1) (m2 : SitIs t2 s.heap i2 l2 k2) (n1 : SrcIs t1 s.heap l1 xs) (n2 : SrcIs t2 s.heap l2 ys)
    (go : ∀ x y, xs[k1]? = some x → ys[k2]? = some y → ∀ h', IsZip h' z TI TO (rawInt s.heap.objs.size) → IsPair h' TO x y → SitIs t1 h' i1 l1 (k1 + 1) → SitIs t2 h' i2 l2 (k2 + 1) → IsPair h' s.heap.objs.size x y →
      h'.objs.size = s.heap.objs.size + 1 → But4 z TO i1 i2 s.heap h' → Q (some (.ref s.heap.objs.size)) { s with heap := h' })
    (no : (xs[k1]? = none ∨ ys[k2]? = none) → ∀ h', But4 z TO i1 i2 s.heap h' → Q none { s with heap := h' }) : wpAny (model prog w) A (pyNext (.ref z)) Q E s := by
  have hT : s.TypeIs (.ref z) "zip" := ⟨_, qz, rfl⟩
  unfold pyNext
  refine wpAny_bind (wpAny_attempt (wpAny_callSpecial?_slot (name := Str.ofString "__next__") hT F.slot_zip_next (wpAny_call_entry F.slot_zip_next hT F.entry_zip_next
    (zip_step hh D qz pI pO m1 m2 n1 n2 (fun x y ex ey h' c1 c2 c3 c4 c5 c6 c7 => ⟨_, rfl, wpAny_pure (go x y ex ey h' c1 c2 c3 c4 c5 c6 c7)⟩) fun bad h' e but he => ?_) (F.args_zip_next_1 _))))
  obtain ⟨o, ho, hc⟩ := he
  exact wpAny_bind (wpAny_isInstance (T := "StopIteration") (b := true) ⟨o, ho, hc⟩ isSubtype_stop (wpAny_pure (no bad h' but)))
end

def itN (t : Bool) : String := if t then "tuple_iterator" else "list_iterator"
abbrev zh1 (t1 : Bool) (h : Heap) (l1 : Addr) : Heap := h.push { cls := .type (itN t1), data := .fields #[.ref l1, .int 0 0] }
abbrev zh2 (t1 t2 : Bool) (h : Heap) (l1 l2 : Addr) : Heap := (zh1 t1 h l1).push { cls := .type (itN t2), data := .fields #[.ref l2, .int 0 0] }
abbrev zh3 (t1 t2 : Bool) (h : Heap) (l1 l2 : Addr) : Heap := (zh2 t1 t2 h l1 l2).push { cls := .type "tuple", data := .seq #[.ref h.objs.size, .ref (zh1 t1 h l1).objs.size] }
abbrev zh4 (t1 t2 : Bool) (h : Heap) (l1 l2 : Addr) : Heap := (zh3 t1 t2 h l1 l2).push { cls := .type "tuple", data := .seq #[.none, .none] }
abbrev zh5 (t1 t2 : Bool) (h : Heap) (l1 l2 : Addr) : Heap :=
  (zh4 t1 t2 h l1 l2).push { cls := .type "zip", data := .fields #[.none, .bool false, .bool false, .ref (zh2 t1 t2 h l1 l2).objs.size, .ref (zh3 t1 t2 h l1 l2).objs.size] }
theorem zip_make (t1 t2 : Bool) (l1 l2 : Addr) (xs ys : Array Value) :
    Meets (Builtin.«zip.__new__» ⟨[.type "zip", .ref l1, .ref l2], []⟩) (fun _ R s => SrcIs t1 s.heap l1 xs ∧ SrcIs t2 s.heap l2 ys ∧
      R (.ok (.ret (.ref (zh4 t1 t2 s.heap l1 l2).objs.size))) { s with heap := zh5 t1 t2 s.heap l1 l2 }) :=
  .of_wp fun prog w A R s h => by
    obtain ⟨hp, g, d, tk, os⟩ := s; obtain ⟨n1, n2, h⟩ := h
    have hsub := sub_zip
    cases t1 <;> cases t2
    · have p1 : Heap.IsList (Shared.heap ⟨hp, g, d, tk, os⟩) l1 xs := n1
      have p2 : Heap.IsList (Shared.heap ⟨hp.push { cls := .type "list_iterator", data := .fields #[.ref l1, .int 0 0] }, g, d, tk, os⟩) l2 ys := Heap.IsList.push n2 _
      wp_walk using wpAny_pyIter_list p1, wpAny_pyIter_list p2
      exact ⟨_, rfl, h⟩
    · have p1 : Heap.IsList (Shared.heap ⟨hp, g, d, tk, os⟩) l1 xs := n1
      have p2 : Heap.IsTuple (Shared.heap ⟨hp.push { cls := .type "list_iterator", data := .fields #[.ref l1, .int 0 0] }, g, d, tk, os⟩) l2 ys := Heap.IsTuple.push n2 _
      wp_walk using wpAny_pyIter_list p1, wpAny_pyIter_tuple p2
      exact ⟨_, rfl, h⟩
    · have p1 : Heap.IsTuple (Shared.heap ⟨hp, g, d, tk, os⟩) l1 xs := n1
      have p2 : Heap.IsList (Shared.heap ⟨hp.push { cls := .type "tuple_iterator", data := .fields #[.ref l1, .int 0 0] }, g, d, tk, os⟩) l2 ys := Heap.IsList.push n2 _
      wp_walk using wpAny_pyIter_tuple p1, wpAny_pyIter_list p2
      exact ⟨_, rfl, h⟩
    · have p1 : Heap.IsTuple (Shared.heap ⟨hp, g, d, tk, os⟩) l1 xs := n1
      have p2 : Heap.IsTuple (Shared.heap ⟨hp.push { cls := .type "tuple_iterator", data := .fields #[.ref l1, .int 0 0] }, g, d, tk, os⟩) l2 ys := Heap.IsTuple.push n2 _
      wp_walk using wpAny_pyIter_tuple p1, wpAny_pyIter_tuple p2
      exact ⟨_, rfl, h⟩
section
variable {prog : Program} {w : World} {A : Around} {E : Value → Shared → Prop} {s : Shared}
theorem SitIs.new {t : Bool} {h : Heap} {it l : Addr} (q : h.get? it = some { cls := .type (itN t), data := .fields #[.ref l, .int 0 0] }) : SitIs t h it l 0 := by
  cases t with
  | true => exact ⟨_, q, rfl, rfl⟩
  | false => exact ⟨_, q, rfl, rfl⟩
theorem zip_call {t1 t2 : Bool} {l1 l2 : Addr} {xs ys : Array Value} {Q : Value → Shared → Prop} (n1 : SrcIs t1 s.heap l1 xs) (n2 : SrcIs t2 s.heap l2 ys)
    (q : ∀ h', IsZip h' (s.heap.objs.size + 4) (s.heap.objs.size + 2) (s.heap.objs.size + 3) .none → IsPair h' (s.heap.objs.size + 2) (.ref s.heap.objs.size) (.ref (s.heap.objs.size + 1)) →
      IsPair h' (s.heap.objs.size + 3) .none .none → SitIs t1 h' s.heap.objs.size l1 0 → SitIs t2 h' (s.heap.objs.size + 1) l2 0 → (∀ c o, s.heap.get? c = some o → h'.get? c = some o) → Q (.ref (s.heap.objs.size + 4)) { s with heap := h' }) :
    wpAny (model prog w) A (call (.type "zip") [.ref l1, .ref l2]) Q E s := by
  refine callType_new F.called_zip (by decide) (F.typeCall_zip_2 _ _) (F.newCall_zip_2 _ _) (fun obj => F.args_object_init_3 obj _ _) F.entry_zip_new (zip_make t1 t2 l1 l2 xs ys) ⟨n1, n2, ?_⟩
  have e1 : (zh1 t1 s.heap l1).objs.size = s.heap.objs.size + 1 := Heap.size_push ..
  have e2 : (zh2 t1 t2 s.heap l1 l2).objs.size = s.heap.objs.size + 2 := by rw [Heap.size_push, e1]
  have e3 : (zh3 t1 t2 s.heap l1 l2).objs.size = s.heap.objs.size + 3 := by rw [Heap.size_push, e2]
  have e4 : (zh4 t1 t2 s.heap l1 l2).objs.size = s.heap.objs.size + 4 := by rw [Heap.size_push, e3]
  have up : ∀ {h : Heap} {o : Obj} {a : Addr} {x : Obj}, h.get? a = some x → (h.push o).get? a = some x := fun q => Heap.get?_push_of_some _ q
  have f5 : (zh5 t1 t2 s.heap l1 l2).get? (zh4 t1 t2 s.heap l1 l2).objs.size = some _ := Heap.get?_push_size _ rfl
  have f4 : (zh5 t1 t2 s.heap l1 l2).get? (zh3 t1 t2 s.heap l1 l2).objs.size = some _ := up (Heap.get?_push_size _ rfl)
  have f3 : (zh5 t1 t2 s.heap l1 l2).get? (zh2 t1 t2 s.heap l1 l2).objs.size = some _ := up (up (Heap.get?_push_size _ rfl))
  have f2 : (zh5 t1 t2 s.heap l1 l2).get? (zh1 t1 s.heap l1).objs.size = some _ := up (up (up (Heap.get?_push_size _ rfl)))
  have f1 : (zh5 t1 t2 s.heap l1 l2).get? s.heap.objs.size = some _ := up (up (up (up (Heap.get?_push_size _ rfl))))
  show _ ∧ _
  rw [e2, e3, e4] at f5
  rw [e1, e2] at f3
  rw [e3] at f4; rw [e1] at f2; rw [e4]
  exact ⟨⟨_, f5, rfl⟩, q _ f5 f3 f4 (.new f1) (.new f2) fun c o x => up (up (up (up (up x))))⟩
end
end J
namespace J
open PySem PySem.Spec L2 PyProof.Rows
def SqM (t : Bool) (K : PySem.W.Frag) (H : Hp) (a : Addr) (xs : List V) : Prop := if t then SqT K H a xs else SqL K H a xs
theorem Inv_src {X : Cx} {pins σ H s} (I : Inv X pins σ H s) {t : Bool} {a : Addr} {xs : List V} (h : SqM t X.K H a xs) : ∃ its : List Value, Vals xs its ∧ SrcIs t s.heap a its.toArray := by
  cases t with
  | true => obtain ⟨its, r, p, _⟩ := I.tuple h; exact ⟨its, r, p⟩
  | false => obtain ⟨its, r, p, _⟩ := I.list h; exact ⟨its, r, p.isList⟩
theorem Inv_inj {X : Cx} {pins σ H s} (I : Inv X pins σ H s) {t : Bool} {a : Addr} {xs ys : List V} (h : SqM t X.K H a xs) (h' : SqM t X.K H a ys) : xs = ys := by
  cases t with
  | true => exact I.tuple_inj h h'
  | false => exact I.list_inj h h'
/-- the items of both, in new pairs -/
def ItM (K : PySem.W.Frag) (t1 t2 : Bool) (a b : Addr) : It :=
  ⟨fun i H => ∃ (xs ys : List V) (x y : V), SqM t1 K H a xs ∧ SqM t2 K H b ys ∧ xs[i]? = some x ∧ ys[i]? = some y,
    fun i H v H' => ∃ T x y, v = .ref T ∧ H T = none ∧ H' = upd H T (.tup [x, y]) ∧ (∀ xs, SqM t1 K H a xs → xs[i]? = some x) ∧ ∀ ys, SqM t2 K H b ys → ys[i]? = some y,
    fun i H => ∃ xs ys : List V, SqM t1 K H a xs ∧ SqM t2 K H b ys ∧ (xs.length ≤ i ∨ ys.length ≤ i)⟩
theorem five {z TI TO i1 i2 c : Addr} (h : c ∈ [z, TI, TO, i1, i2]) : c = z ∨ c = TI ∨ c = TO ∨ c = i1 ∨ c = i2 := by simpa using h
theorem zip_turn {P : Program} {w : World} {K : PySem.W.Frag} {elts : List Expr} {kk : Nat} {tpos : Pos} {t1 t2 : Bool} {a b z TI TO i1 i2 : Addr} (D : ZipApart z TI TO i1 i2 a b) :
    Turn P w K (.Tuple elts kk tpos) (ItM K t1 t2 a b) [z, TI, TO, i1, i2] z (fun i h => IsZip h z TI TO .none ∧ IsPair h TI (.ref i1) (.ref i2) ∧ (∃ x y, IsPair h TO x y) ∧ SitIs t1 h i1 a i ∧ SitIs t2 h i2 b i) where
  mem := by simp
  obj := fun i h st c hc => by
    obtain ⟨qz, pI, ⟨x, y, pO⟩, m1, m2⟩ := st
    obtain ⟨o1, e1, d1⟩ := m1.obj
    obtain ⟨o2, e2, d2⟩ := m2.obj
    rcases five hc with rfl | rfl | rfl | rfl | rfl
    · exact ⟨_, qz, fun v q => nomatch q⟩
    · exact ⟨_, pI, fun v q => nomatch q⟩
    · exact ⟨_, pO, fun v q => nomatch q⟩
    · exact ⟨o1, e1, fun v q => by rw [d1] at q; cases q⟩
    · exact ⟨o2, e2, fun v q => by rw [d2] at q; cases q⟩
  keep := fun i h h' st k => by
    obtain ⟨qz, pI, ⟨x, y, pO⟩, m1, m2⟩ := st
    exact ⟨k z (by simp) _ qz, k TI (by simp) _ pI, ⟨x, y, k TO (by simp) _ pO⟩, m1.up fun o q => k i1 (by simp) o q, m2.up fun o q => k i2 (by simp) o q⟩
  item := by
    intro X hP hw hK hc i pins s σ H E I hf st hg
    subst hP hw hK
    obtain ⟨qz, pI, ⟨x0, y0, pO⟩, m1, m2⟩ := st
    obtain ⟨xs, ys, x, y, sx, sy, hx, hy⟩ := hg
    obtain ⟨us, rv, n1⟩ := Inv_src I sx
    obtain ⟨vs, rw', n2⟩ := Inv_src I sy
    obtain ⟨u, hu, ru⟩ := rv.get hx
    obtain ⟨v, hv, rv'⟩ := rw'.get hy
    have lz : z < s.heap.objs.size := Heap.lt_size qz
    refine zip_next (I.ok.hd hc) D qz pI pO m1 m2 n1 n2 (fun u' v' eu ev h' z' O' m1' m2' hT sz hk => ?_) fun bad => ?_
    · have eu : us[i]? = some u' := by simpa using eu
      have ev : vs[i]? = some v' := by simpa using ev
      rw [hu] at eu; cases eu; rw [hv] at ev; cases ev
      refine ⟨_, rfl, wpAny_letOwnedTupleGo_zip (s := { s with heap := h' }) z' fun h'' z'' sb => ?_⟩
      have hT2 : h''.get? s.heap.objs.size = some { cls := .type "tuple", data := .seq #[u, v] } := (sb.2 _ (Nat.ne_of_gt lz)).trans hT
      have new : ObjOk X.prog X.w (upd H s.heap.objs.size (.tup [x, y])) h'' s.heap.objs.size (.tup [x, y]) := ⟨by show 2 ≤ sizeLine; decide, [u, v], .cons ru (.cons rv' .nil), ⟨_, hT2, rfl, _, rfl⟩⟩
      have I1 : Inv X pins σ (upd H s.heap.objs.size (.tup [x, y])) { s with heap := h'' } := I.turnedNew (t' := s.toks) (ch := [z, TI, TO, i1, i2]) (fun c o hb q => (sb.2 c fun e => hb (by simp [e])).trans
        (hk c o (fun e => hb (by simp [e])) (fun e => hb (by simp [e])) (fun e => hb (by simp [e])) (fun e => hb (by simp [e])) q)) hf (Nat.le_refl _) new
      refine ⟨.ref s.heap.objs.size, _, I1, rfl, ⟨_, x, y, rfl, I.hok.fresh (Nat.le_refl _), rfl, fun l hl => by rw [Inv_inj I hl sx]; exact hx, fun l hl => by rw [Inv_inj I hl sy]; exact hy⟩, ⟨z'', (sb.2 _ D.TIz).trans (hk _ _ D.TIz D.TITO D.TIi1 D.TIi2 pI),
        ⟨u, v, (sb.2 _ D.TOz).trans O'⟩, m1'.up fun o q => (sb.2 _ D.i1z).trans q, m2'.up fun o q => (sb.2 _ D.i2z).trans q⟩, fun c hcm => ?_⟩
      have lt : c < s.heap.objs.size := by
        rcases five hcm with rfl | rfl | rfl | rfl | rfl
        · exact lz
        · exact Heap.lt_size pI
        · exact Heap.lt_size pO
        · obtain ⟨_, q, _⟩ := m1.obj; exact Heap.lt_size q
        · obtain ⟨_, q, _⟩ := m2.obj; exact Heap.lt_size q
      rw [upd_ne (Nat.ne_of_lt lt)]
      exact (hf c hcm).1
    · rcases bad with q | q
      · have q : us[i]? = none := by simpa using q
        rw [hu] at q; cases q
      · have q : vs[i]? = none := by simpa using q
        rw [hv] at q; cases q
  done := by
    intro X hP hw hK hc i pins s σ H E I hf st hg
    subst hP hw hK
    obtain ⟨qz, pI, ⟨x0, y0, pO⟩, m1, m2⟩ := st
    obtain ⟨xs, ys, sx, sy, hend⟩ := hg
    obtain ⟨us, rv, n1⟩ := Inv_src I sx
    obtain ⟨vs, rw', n2⟩ := Inv_src I sy
    have l1 := rv.length
    have l2 := rw'.length
    refine zip_next (I.ok.hd hc) D qz pI pO m1 m2 n1 n2 (fun u' v' eu ev => ?_) fun _ h' hk => ⟨rfl, I.turnedL (t' := s.toks) (ch := [z, TI, TO, i1, i2]) (fun c o hb q =>
      hk c o (fun e => hb (by simp [e])) (fun e => hb (by simp [e])) (fun e => hb (by simp [e])) (fun e => hb (by simp [e])) q) hf⟩
    have eu : us[i]? = some u' := by simpa using eu
    have ev : vs[i]? = some v' := by simpa using ev
    have q1 := (List.getElem?_eq_some_iff.mp eu).1
    have q2 := (List.getElem?_eq_some_iff.mp ev).1
    exact absurd hend (by omega)
  self := fun A i s Q E st h => wpAny_pyIter_zip st.1 h
def iZipM (K : PySem.W.Frag) (ta : TA) : TI := fun σ H R => ta σ H fun vs H1 => ∃ t1 t2 a b xs ys, vs = [.ref a, .ref b] ∧ SqM t1 K H1 a xs ∧ SqM t2 K H1 b ys ∧ R (ItM K t1 t2 a b) H1
theorem pi_zipM {X : Cx} {e e2 : Expr} {ta : TA} {p pos tpos : Pos} {elts : List Expr} {kk : Nat} (hg : Gl X "zip") (hm : X.mg "zip" = none) (ha : PA X [e, e2] ta)
    (hs : starEach [e, e2] X.env = (false, eval e X.env) :: starEach [e2] X.env := by rfl) (hpl : (backTo pos (starEach [e2] X.env)).any (·.1) = false := by rfl) :
    PI X (.Tuple elts kk tpos) (.Call (.Name "zip" p) [e, e2] [] pos) (iZipM X.K ta) := by
  refine ⟨fun pins s σ H R I h => ?_⟩
  refine Call_ (ld_blt I hg hm PyProof.Rows.boot_zip (PyProof.Rows.callWith_type1 (thn (ha.run pos pins s σ H _ I h) fun us s1 ⟨vs, H1, I1, r1, q1⟩ => ?_) hs hpl))
  obtain ⟨t1, t2, a, b, xs, ys, rfl, sx, sy, q⟩ := q1
  cases r1 with
  | cons r rr =>
    cases rr with
    | cons r' rr =>
      cases rr; cases r; cases r'
      have new5 : ∀ c, c ∈ [s1.heap.objs.size + 4, s1.heap.objs.size + 2, s1.heap.objs.size + 3, s1.heap.objs.size, s1.heap.objs.size + 1] → FpOk X pins H1 c := fun c hcm => by
        have le : s1.heap.objs.size ≤ c := by rcases five hcm with rfl | rfl | rfl | rfl | rfl <;> omega
        exact I1.fpOk le (I1.hok.fresh le)
      obtain ⟨us, rv, n1⟩ := Inv_src I1 sx
      obtain ⟨vs, rw', n2⟩ := Inv_src I1 sy
      refine zip_call n1 n2 fun h' qz pI pO m1 m2 hk => wpAny_pyIter_zip qz ?_
      have I2 : Inv X pins σ H1 { s1 with heap := h' } := I1.kept (t' := s1.toks) hk
      exact ⟨s1.heap.objs.size + 4, [s1.heap.objs.size + 4, s1.heap.objs.size + 2, s1.heap.objs.size + 3, s1.heap.objs.size, s1.heap.objs.size + 1], _, _, H1, rfl, I2,
        zip_turn (PySem.W.ktu_apart s1.heap.objs.size a b n1.lt n2.lt), ⟨qz, pI, ⟨_, _, pO⟩, m1, m2⟩, new5, q⟩
end J
namespace J
open PySem PySem.Spec L2
section
variable {X : Cx} {ct : List (Str × List Str)} {Wx : WX} {a b : Expr} {f f1 f2 : CE} {pos p : Pos}
theorem rep_src {W1 : Wd} {H1 : Hp} {d : D} {v : V} {ds : List D} (r : Rep (Gx X ct) W1 H1 d v) (e : items d = some ds) (l : LenOk H1) :
    ∃ t q vs, v = .ref q ∧ Reps (Gx X ct) W1 H1 ds vs ∧ vs.length ≤ sizeLine ∧ ∀ W' H', Ext0 W1 H1 W' H' → SqM t X.K H' q vs := by
  cases r with
  | @lst q vs ds z h r => cases e; exact ⟨false, q, vs, rfl, r, l.1 _ _ (.inl h), fun W' H' x => .of (x.ls _ _ z h)⟩
  | @tup q vs ds h r => cases e; exact ⟨true, q, vs, rfl, r, l.2 _ _ h, fun W' H' x => .of (x.tp _ _ h)⟩
  | @scr q vs ds h r =>
    cases e
    refine ⟨false, q, vs, rfl, r, ?_, fun W' H' x => ?_⟩
    · rcases h with ⟨o, h⟩ | ⟨o, its, n, _, _, _, _, hz, rv⟩
      · exact l.1 _ _ (.inr ⟨o, h⟩)
      · have := rv.length
        simp only [Array.length_toList] at this
        omega
    · rcases h with ⟨o, h⟩ | h
      · exact .inl (.inr ⟨o, x.fz _ _ _ h⟩)
      · exact .inr h
  | _ => cases e
theorem pi_zip {elts : List Expr} {kk : Nat} {tpos : Pos} (hm : X.mg "zip" = none) (h1 : PF X ct Wx a f1) (h2 : PF X ct Wx b f2) (hg : Gl X "zip" := by rfl)
    (hs : starEach [a, b] X.env = (false, eval a X.env) :: starEach [b] X.env := by rfl) (hs2 : starEach [b] X.env = (false, eval b X.env) :: starEach [] X.env := by rfl)
    (hp : (backTo pos (starEach [b] X.env)).any (·.1) = false := by rfl) : PIf X ct Wx (.Tuple elts kk tpos) (.Call (.Name "zip" p) [a, b] [] pos) (iZip f1 f2) := by
  refine PI_fin (pi_zipM hg hm (pa_cons h1 (pa_cons h2 pa_nil hs2) hs) hs hp) ?_
  rintro σ H R l ⟨W0, H0, W, E, M, rel, p⟩
  refine ⟨W0, H0, W, E, M, rel, Post.bind p fun d1 M1 W1 H1 v1 _ x1 rel1 p1 l1 p => ?_⟩
  refine ⟨W0, H0, W1, E, M1, rel1, Post.bind p fun d2 M2 W2 H2 v2 _ x2 rel2 p2 l2 p => ?_⟩
  split at p
  · rename_i ds es e1 e2
    obtain ⟨t1, q1, vs, rfl, r1, z1, s1⟩ := rep_src (p1.mono x2.toExt0) e1 l2
    obtain ⟨t2, q2, us, rfl, r2, z2, s2⟩ := rep_src p2 e2 l2
    refine ⟨t1, t2, q1, q2, vs, us, rfl, s1 _ _ Ext0.refl, s2 _ _ Ext0.refl, fun l' => p W2 H2 _ Ext.refl rel2 ⟨fun W' H' M' x c l2 i hi => ⟨fun d hd => ?_, fun hi => ?_⟩, ?_⟩ l'⟩
    · obtain ⟨x1, x2, g1, g2, rfl⟩ := pairUp_at _ _ _ _ hd
      obtain ⟨w1, k1, _⟩ := r1.get g1
      obtain ⟨w2, k2, _⟩ := r2.get g2
      refine ⟨⟨vs, us, w1, w2, s1 _ _ x, s2 _ _ x, k1, k2⟩, fun y H'' hy => ?_⟩
      obtain ⟨T, y1, y2, rfl, hT, rfl, c1, c2⟩ := hy
      exact new_pair c l2 hT (reps_at (r1.mono x) g1 (c1 vs (s1 _ _ x))) (reps_at (r2.mono x) g2 (c2 us (s2 _ _ x)))
    · refine ⟨vs, us, s1 _ _ x, s2 _ _ x, ?_⟩
      rw [pairUp_len] at hi
      have := r1.length
      have := r2.length
      omega
    · rw [pairUp_len]
      have := r1.length
      omega
  · exact p.elim
end
end J
namespace J
open PySem PySem.Spec L2
/-! ### x in a list or tuple of data of any depth -/
def gInD : D → D → Option D
  | x, .tup ds => if flatD 60 x && (flatD 64 x && flatD 64 (.tup ds)) then some (.bl (ds.any fun y => eqD y x)) else none
  | x, .lst ds => if flatD 60 x && (flatD 64 x && flatD 64 (.lst ds)) then some (.bl (ds.any fun y => eqD y x)) else none
  | _, _ => none
def gNotInD (x y : D) : Option D := (gInD x y).bind gNot
/-- a is b, of two truth values -/
@[simp] def gIsB : D → D → Option D
  | .bl a, .bl b => some (.bl (decide (a = b)))
  | _, _ => none
@[simp] def gNotB : D → D → Option D
  | .bl a, .bl b => some (.bl (!decide (a = b)))
  | _, _ => none
section
variable {X : Cx} {ct : List (Str × List Str)}
def rDeep (K : PySem.W.Frag) (neg : Bool) : R2 := fun x y H Q => ∃ (t : Bool) (d : PyData) (ds : List PyData), Dp K H x d ∧ Dp K H y (if t then .tuple ds else .list ds) ∧ d.canLay0 = true ∧ d.depth ≤ 60 ∧ PyData.canLayAll0 ds = true ∧
  Q (.bl (if neg then !(ds.any fun z => PyData.eqv z d) else ds.any fun z => PyData.eqv z d)) H
theorem op_deep (hu : X.A.units + 64 < cLine) (neg : Bool) : OpR X (compareOp (if neg then .NotIn else .In)) (rDeep X.K neg) := by
  intro pins s σ H x y v u Q I rx ry h
  obtain ⟨t, d, ds, hd, he, cd, dd, cs, q⟩ := h
  obtain ⟨as, r1⟩ := Dp.reads I d x v hd rx
  have room : X.A.units + 1 + min (PyData.depthAll ds) d.depth < cLine := by
    have := Nat.min_le_right (PyData.depthAll ds) d.depth
    omega
  cases t with
  | true =>
    obtain ⟨bs, r2⟩ := Dp.reads I (.tuple ds) y u he ry
    cases neg with
    | true => exact SeqAt.notIn_tuple_reads r2 r1 cs cd room ⟨.bl _, H, I, rfl, q⟩
    | false => exact SeqAt.in_tuple_reads r2 r1 cs cd room ⟨.bl _, H, I, rfl, q⟩
  | false =>
    obtain ⟨bs, r2⟩ := Dp.reads I (.list ds) y u he ry
    cases neg with
    | true => exact SeqAt.notIn_list_reads r2 r1 cs cd room ⟨.bl _, H, I, rfl, q⟩
    | false => exact SeqAt.in_list_reads r2 r1 cs cd room ⟨.bl _, H, I, rfl, q⟩
theorem any_eqD {n m : Nat} {x : D} (fx : flatD n x = true) : ∀ {ds : List D}, flatDs m ds = true → (toPys ds).any (fun z => PyData.eqv z (toPy x)) = ds.any fun y => eqD y x
  | [], _ => rfl
  | d :: ds, f => by
    rw [flatDs, Bool.and_eq_true] at f
    have h1 := any_eqD fx f.2
    have h2 := eqv_eqD f.1 fx
    show (PyData.eqv (toPy d) (toPy x) || (toPys ds).any fun z => PyData.eqv z (toPy x)) = (eqD d x || ds.any fun y => eqD y x)
    rw [h1, h2]
theorem deep_case {W0 W : Wd} {H0 H : Hp} {σ : L2.St} {E : Env} {M : Mem} {d1 d2 d : D} {v1 v2 : V} (rel : Rel (Gx X ct) W0 H0 W σ H E M) (s1 : Seen (Gx X ct) W H σ E d1 v1) (s2 : Seen (Gx X ct) W H σ E d2 v2) (q : gInD (view M d1) (view M d2) = some d) :
    ∃ b, d = .bl b ∧ ∃ (t : Bool) (d' : PyData) (ds : List PyData), Dp X.K H v1 d' ∧ Dp X.K H v2 (if t then .tuple ds else .list ds) ∧ d'.canLay0 = true ∧ d'.depth ≤ 60 ∧ PyData.canLayAll0 ds = true ∧ (ds.any fun z => PyData.eqv z d') = b := by
  unfold gInD at q
  split at q
  · rename_i ds e2
    split at q
    · rename_i c
      simp only [Bool.and_eq_true] at c
      obtain ⟨c0, c1, c2⟩ := c
      cases q
      have c3 : flatDs 63 ds = true := by simpa [flatD] using c2
      have h2 := view_flat rel s2 (by rw [e2]; exact c2)
      rw [e2] at h2
      exact ⟨_, rfl, true, _, toPys ds, view_flat rel s1 c1, h2, (flat_can c0).1, (flat_can c0).2, (flats_can c3).1, any_eqD c1 c3⟩
    · cases q
  · rename_i ds e2
    split at q
    · rename_i c
      simp only [Bool.and_eq_true] at c
      obtain ⟨c0, c1, c2⟩ := c
      cases q
      have c3 : flatDs 63 ds = true := by simpa [flatD] using c2
      have h2 := view_flat rel s2 (by rw [e2]; exact c2)
      rw [e2] at h2
      exact ⟨_, rfl, false, _, toPys ds, view_flat rel s1 c1, h2, (flat_can c0).1, (flat_can c0).2, (flats_can c3).1, any_eqD c1 c3⟩
    · cases q
  · cases q
theorem of_inD (hu : X.A.units + 64 < cLine) : OpF X ct (compareOp .In) gInD := by
  refine ⟨_, op_deep hu false, fun W0 H0 W σ H E M d1 d2 v1 v2 d Q rel l s1 s2 q k => ?_⟩
  obtain ⟨b, rfl, t, d', ds, h1, h2, h3, h4, h5, rfl⟩ := deep_case rel s1 s2 q
  exact ⟨t, d', ds, h1, h2, h3, h4, h5, k W H _ Ext.refl rel.toCRel (.bl _) l⟩
theorem of_notInD (hu : X.A.units + 64 < cLine) : OpF X ct (compareOp .NotIn) gNotInD := by
  refine ⟨_, op_deep hu true, fun W0 H0 W σ H E M d1 d2 v1 v2 d Q rel l s1 s2 q k => ?_⟩
  unfold gNotInD at q
  rw [Option.bind_eq_some_iff] at q
  obtain ⟨d', q, q'⟩ := q
  obtain ⟨b, rfl, t, d', ds, h1, h2, h3, h4, h5, rfl⟩ := deep_case rel s1 s2 q
  cases q'
  exact ⟨t, d', ds, h1, h2, h3, h4, h5, k W H _ Ext.refl rel.toCRel (.bl _) l⟩
theorem of_isB : OpF X ct (compareOp .Is) gIsB := by
  refine ⟨_, op_is_bl, fun W0 H0 W σ H E M d1 d2 v1 v2 d Q rel l s1 s2 q k => ?_⟩
  unfold gIsB at q
  split at q
  · rename_i a b e1 e2
    cases q
    obtain rfl := see_bl rel s1 e1
    obtain rfl := see_bl rel s2 e2
    exact ⟨a, b, rfl, rfl, k W H _ Ext.refl rel.toCRel (.bl _) l⟩
  · cases q
theorem of_notB : OpF X ct (compareOp .IsNot) gNotB := by
  refine ⟨_, op_isnot_bl, fun W0 H0 W σ H E M d1 d2 v1 v2 d Q rel l s1 s2 q k => ?_⟩
  unfold gNotB at q
  split at q
  · rename_i a b e1 e2
    cases q
    obtain rfl := see_bl rel s1 e1
    obtain rfl := see_bl rel s2 e2
    exact ⟨a, b, rfl, rfl, k W H _ Ext.refl rel.toCRel (.bl _) l⟩
  · cases q
end
end J
namespace J
open PySem PySem.Spec L2
/-- x, y = a, b -/
@[simp] def sPar (i j : Nat) (g : CA) : CS := fun E M => (g E M).stA E fun ds M => match ds with
  | [d1, d2] => .ok (.nx, (E.set i (.sh d1)).set j (.sh d2)) M
  | _ => .bad
@[simp] def sPar3 (i j l : Nat) (g : CA) : CS := fun E M => (g E M).stA E fun ds M => match ds with
  | [d1, d2, d3] => .ok (.nx, ((E.set i (.sh d1)).set j (.sh d2)).set l (.sh d3)) M
  | _ => .bad
/-- raise X() -/
@[simp] def sRaise (c : Nat) : CS := fun E M => .ok (.ex c [], E) M
/-- try: s except X: h; m tells of each class whether X takes it -/
@[simp] def sTry (m : Nat → Option Bool) (s h : CS) : CS := fun E M => match s E M with
  | .ok (.ex c ds, E) M => match m c with
    | some true => h E M
    | some false => .ok (.ex c ds, E) M
    | none => .bad
  | r => r
def tabM : List (Nat × Bool) → Nat → Option Bool
  | [], _ => none
  | (d, b) :: r, c => if c = d then some b else tabM r c
section
variable {X : Cx} {ct : List (Str × List Str)} {Wx : WX} {a b c : Expr} {x y z : Str} {g : CA} {px py pz pt pos : Pos}
theorem s_par {kt k2 pt2} (i j : Nat) (hc : X.calm = true) (hN : X.N.Nodup) (ha : PAf X ct Wx [a, b] g) (hi : X.N[i]? = some x := by rfl) (hj : X.N[j]? = some y := by rfl) (hij : i ≠ j := by decide)
    (hx : X.env.scope.names.lookup x = some .local := by rfl) (hy : X.env.scope.names.lookup y = some .local := by rfl)
    (hw : swappedStores [.Tuple [.Name x px, .Name y py] kt pt] (.Tuple [a, b] k2 pt2) X.env = pure (some [x, y]) := by rfl)
    (hs : swapsWithSole [.Tuple [.Name x px, .Name y py] kt pt] (.Tuple [a, b] k2 pt2) pos.line X.env = pure false := by rfl) :
    PSf X ct Wx (.Assign [.Tuple [.Name x px, .Name y py] kt pt] (.Tuple [a, b] k2 pt2) pos) (sPar i j g) := by
  refine PS_fin (ps_par hc hN hi hj hij hx hy ha hw hs) ?_
  rintro D σ H l ⟨W0, H0, W, E, M, rel, p⟩
  refine ⟨W0, H0, W, E, M, rel, PostS.bindA p fun ds M1 W1 H1 vs _ x1 rel1 r1 l1 p => ?_⟩
  split at p
  · rename_i d1 d2
    cases r1 with
    | cons h1 t =>
      cases t with
      | cons h2 t =>
        cases t
        exact ⟨_, _, rfl, fun l' => p W1 _ H1 Ext0.refl ((rel1.set i h1).set j h2) l1⟩
  · exact p.elim
theorem s_par3 {kt k2 pt2} (i j n : Nat) (hc : X.calm = true) (hN : X.N.Nodup) (ha : PAf X ct Wx [a, b, c] g) (hi : X.N[i]? = some x := by rfl) (hj : X.N[j]? = some y := by rfl) (hn : X.N[n]? = some z := by rfl) (hij : i ≠ j := by decide) (hin : i ≠ n := by decide) (hjn : j ≠ n := by decide)
    (hx : X.env.scope.names.lookup x = some .local := by rfl) (hy : X.env.scope.names.lookup y = some .local := by rfl) (hz : X.env.scope.names.lookup z = some .local := by rfl)
    (hw : swappedStores [.Tuple [.Name x px, .Name y py, .Name z pz] kt pt] (.Tuple [a, b, c] k2 pt2) X.env = pure (some [x, y, z]) := by rfl)
    (hs : swapsWithSole [.Tuple [.Name x px, .Name y py, .Name z pz] kt pt] (.Tuple [a, b, c] k2 pt2) pos.line X.env = pure false := by rfl) :
    PSf X ct Wx (.Assign [.Tuple [.Name x px, .Name y py, .Name z pz] kt pt] (.Tuple [a, b, c] k2 pt2) pos) (sPar3 i j n g) := by
  refine PS_fin (ps_par3 hc hN hi hj hn hij hin hjn hx hy hz ha hw hs) ?_
  rintro D σ H l ⟨W0, H0, W, E, M, rel, p⟩
  refine ⟨W0, H0, W, E, M, rel, PostS.bindA p fun ds M1 W1 H1 vs _ x1 rel1 r1 l1 p => ?_⟩
  split at p
  · rename_i d1 d2 d3
    cases r1 with
    | cons h1 t =>
      cases t with
      | cons h2 t =>
        cases t with
        | cons h3 t =>
          cases t
          exact ⟨_, _, _, rfl, fun l' => p W1 _ H1 Ext0.refl (((rel1.set i h1).set j h2).set n h3) l1⟩
  · exact p.elim
end
/-! ### exceptions -/
def veBase : List Value := [.type "ValueError", .type "Exception", .type "BaseException", .type "object"]
/-- the class with the number c is an exception class of the program's own, without own __init__ -/
structure ExcX (K : PySem.W.Frag) (mg : Str → Option Value) (ct : List (Str × List Str)) (c : Nat) (nm : Str) : Prop where
  ex : ∃ C, ct[c]? = some (nm, []) ∧ mg nm = some (.ref C) ∧ PySem.W.excIn K C veBase "ValueError.__new__" = true ∧ PySem.W.keepIn K (.ref C) = true ∧ PySem.W.subIn K (.ref C) (.type "BaseException") = some true ∧ PySem.W.typeIn K (.ref C) = some (.type "type")
/-- whether the class d takes the class c -/
structure ExmX (K : PySem.W.Frag) (mg : Str → Option Value) (ct : List (Str × List Str)) (c d : Nat) (b : Bool) : Prop where
  ex : ∃ n1 s1 C n2 s2 D, ct[c]? = some (n1, s1) ∧ ct[d]? = some (n2, s2) ∧ mg n1 = some (.ref C) ∧ mg n2 = some (.ref D) ∧ PySem.W.exmOne K (.ref C) (.ref D) = some b
section
variable {X : Cx} {ct : List (Str × List Str)} {Wx : WX} {x : Str} {p pos pos' np : Pos} {body suite : List Stmt} {s h : CS} {b₀ : Stmt}
/-- X() -/
theorem pmk_own0 {C : Addr} {bmB : List Value} {B newId initId : String} (F : ExcBaseFacts B newId initId bmB) (q : PySem.W.excIn X.K C bmB newId = true) (gC : X.mg x = some (.ref C)) (kC : PySem.W.keepIn X.K (.ref C) = true) (r : Raises X (.ref C)) (hg : Gl X x)
    (hdb : (x == ("__debug__" : Str)) = false := by decide) : PMk X (.Call (.Name x p) [] [] pos) (fun _ H Q => Q (.ref C) none H) := by
  intro pins s σ H Q I h
  refine wpAny_Call_Name_kw (ld_glob I hg gC ?_ hdb)
  refine PySem.W.callWith_K0 I.kIn kC ?_
  obtain ⟨bm, N, nm, qn, bs, hdct, sn, sub, ab, col, dd, k0, k1, k2, k3, k5, mN, hC, hN, hni, T⟩ := exc_obj I.kIn q
  refine wpAny_call_exc_subT F T hC hN hni (fun h' e hm => ?_) (by show 0 ≤ sizeLine; exact Nat.zero_le _)
  exact mk_of I hm r h (I.hok.gone hm.new)
theorem s_raise (cn : Nat) (T : ExcX X.K X.mg ct cn x) (hc : X.calm = true) (tk : Takes X Wx) (hg : Gl X x := by rfl) (hdb : (x == ("__debug__" : Str)) = false := by decide) :
    PSf X ct Wx (.Raise (some (.Call (.Name x p) [] [] pos)) none pos') (sRaise cn) := by
  obtain ⟨C, h1, h2, h3, h4, h5, h6⟩ := T.ex
  refine PS_fin (ps_raise hc tk (pmk_own0 PySem.F.excBase_ValueError h3 h2 h4 (raises_own h5 h6) hg hdb)) ?_
  rintro D σ H l ⟨W0, H0, W, E, M, rel, p⟩
  exact p W σ H Ext0.refl rel l C none ⟨x, [], h1, h2, .inl ⟨rfl, rfl, rfl⟩⟩
theorem s_try {m : Nat → Option Bool} (dn : Nat) (hm : ∀ c b, m c = some b → ExmX X.K X.mg ct c dn b) (hD : ∃ D ns, ct[dn]? = some (x, ns) ∧ X.mg x = some (.ref D)) (hs : X.stack = X.env :: X.outer) (hf : X.env.frame = some X.env.locals) (tk : Takes X Wx)
    (hb : ∀ (W : WX) (pn : List (Addr × Obj)) (xe : Value → Shared → Prop), Takes (X.tr pn xe) W → PassesOwn (model X.prog X.w) X.A X.env xe → PSsf (X.tr pn xe) ct W body s)
    (hsu : ∀ (a : Addr) (oe : Obj) (pn : List (Addr × Obj)), PSsf (X.suite a ((a, oe) :: pn)) ct Wx (b₀ :: suite) h) (hg : Gl X x := by rfl) (hdb : (x == ("__debug__" : Str)) = false := by decide) :
    PSf X ct Wx (.Try body [.ExceptHandler (some (.Name x np)) none (b₀ :: suite) pos'] [] [] pos) (sTry m s h) := by
  obtain ⟨D0, nsD, d1, d2⟩ := hD
  refine PS_fin (ps_try_only (c := .ref D0) (tb := fun W => tS (Gx X ct) W s) (ts := fun _ _ _ => tS (Gx X ct) Wx h) hs hf ⟨hg, hdb, .inl d2⟩ tk (fun W pn xe t1 t2 => hb W pn xe t1 t2) (fun a oe cls d pn _ _ => hsu a oe pn)) ?_
  rintro D σ H l ⟨W0, H0, W, E, M, rel, p⟩
  refine ⟨W0, H0, W, E, M, rel, ?_⟩
  unfold sTry at p
  cases q : s E M with
  | bad => rw [q] at p; exact p
  | exc cn ds M' => rw [q] at p; exact p
  | ok a M' =>
    rw [q] at p
    obtain ⟨fl, E'⟩ := a
    cases fl with
    | nx => exact fun W' σ' H' x r l => (p W' σ' H' x r l : D.nx σ' H') |> fun z _ => z
    | bk => exact fun W' σ' H' x r l => (p W' σ' H' x r l : D.bk σ' H') |> fun z _ => z
    | ct => exact fun W' σ' H' x r l => (p W' σ' H' x r l : D.ct σ' H') |> fun z _ => z
    | rt d => exact fun W' σ' H' x r l v hv _ => p W' σ' H' x r l v hv
    | ex cn ds =>
      dsimp only at p
      intro W' σ' H' x r l C o he
      obtain ⟨nm, ns, e1, e2, e3⟩ := id he
      cases qm : m cn with
      | none => rw [qm] at p; exact p.elim
      | some b =>
        rw [qm] at p
        obtain ⟨n1, s1, C1, n2, s2, D1, m1, m2, m3, m4, m5⟩ := (hm cn b qm).ex
        have e1 : ct[cn]? = some (nm, ns) := e1
        rw [m1] at e1
        cases e1
        have e2 : X.mg _ = some (.ref C) := e2
        rw [m3] at e2
        cases e2
        rw [d1] at m2
        cases m2
        rw [d2] at m4
        cases m4
        refine ⟨b, m5, fun hb a ha => ?_, fun hb => ?_⟩
        · subst hb
          exact ⟨W0, H0, W', E', M', r, (PostS.step x p).dl⟩
        · subst hb
          exact p W' σ' H' x r l C o he
end
/-! facts from the head -/
section
variable {K : PySem.W.Frag} {mg : Str → Option Value} {h : Heap} {ct : List (Str × List Str)} {c d : Nat} {nm n1 n2 : Str} {C D : Addr} {b : Bool} {s1 s2 : List Str}
theorem excX_mk (X : K.In h) (G : h.Ns mainGlobals mg) (hc : ct[c]? = some (nm, [])) (a : PySem.W.nsIn K mainGlobals nm = some (some (.ref C))) (q : PySem.W.excIn K C veBase "ValueError.__new__" = true) (k : PySem.W.keepIn K (.ref C) = true)
    (s : PySem.W.subIn K (.ref C) (.type "BaseException") = some true) (t : PySem.W.typeIn K (.ref C) = some (.type "type")) : ExcX K mg ct c nm := ⟨C, hc, PySem.W.mg_of X G a, q, k, s, t⟩
theorem exm_of {K : PySem.W.Frag} {C D : Addr} {b : Bool} (h1 : PySem.W.subIn K (.ref D) (.type "BaseException") = some true) (h2 : PySem.W.isClsIn K D = true) (h3 : PySem.W.typeIn K (.ref D) = some (.type "type")) (h4 : PySem.W.subIn K (.ref C) (.ref D) = some b) :
    PySem.W.exmOne K (.ref C) (.ref D) = some b := by
  have e1 : (PySem.W.subIn K (.ref D) (.type "BaseException") == some true) = true := by rw [h1] <;> rfl
  have e2 : ((PySem.W.clsIn K D).isSome && PySem.W.typeIn K (.ref D) == some (.type "type")) = true := by
    have h2' : (PySem.W.clsIn K D).isSome = true := h2
    rw [h2', h3] <;> rfl
  show (if (PySem.W.subIn K (.ref D) (.type "BaseException") == some true) = true then (if ((PySem.W.clsIn K D).isSome && PySem.W.typeIn K (.ref D) == some (.type "type")) = true then PySem.W.subIn K (.ref C) (.ref D) else none) else none) = some b
  rw [if_pos e1, if_pos e2]
  exact h4
theorem exmX_mk (X : K.In h) (G : h.Ns mainGlobals mg) (hc : ct[c]? = some (n1, s1)) (hd : ct[d]? = some (n2, s2)) (a : PySem.W.nsIn K mainGlobals n1 = some (some (.ref C))) (a2 : PySem.W.nsIn K mainGlobals n2 = some (some (.ref D)))
    (h1 : PySem.W.subIn K (.ref D) (.type "BaseException") = some true) (h2 : PySem.W.isClsIn K D = true) (h3 : PySem.W.typeIn K (.ref D) = some (.type "type")) (h4 : PySem.W.subIn K (.ref C) (.ref D) = some b) : ExmX K mg ct c d b :=
  ⟨n1, s1, C, n2, s2, D, hc, hd, PySem.W.mg_of X G a, PySem.W.mg_of X G a2, exm_of h1 h2 h3 h4⟩
theorem ExcX.cls {K : PySem.W.Frag} (h : ExcX K mg ct c nm) : ∃ D ns, ct[c]? = some (nm, ns) ∧ mg nm = some (.ref D) := by
  obtain ⟨C, h1, h2, _⟩ := h.ex
  exact ⟨C, [], h1, h2⟩
theorem ExmX.cls {K : PySem.W.Frag} (h : ExmX K mg ct c d b) (e : (ct[d]?.map (·.1)) = some nm) : ∃ D ns, ct[d]? = some (nm, ns) ∧ mg nm = some (.ref D) := by
  obtain ⟨n1, s1, C, n2, s2, D, h1, h2, h3, h4, h5⟩ := h.ex
  rw [h2] at e
  cases e
  exact ⟨D, s2, h2, h4⟩
theorem exm_nil {K : PySem.W.Frag} : ∀ c b, tabM [] c = some b → ExmX K mg ct c d b := fun _ _ h => nomatch h
theorem exm_cons {K : PySem.W.Frag} {r : List (Nat × Bool)} (h : ExmX K mg ct c d b) (t : ∀ c b, tabM r c = some b → ExmX K mg ct c d b) : ∀ c' b', tabM ((c, b) :: r) c' = some b' → ExmX K mg ct c' d b' := fun c' b' q => by
  unfold tabM at q
  by_cases e : c' = c
  · rw [if_pos e] at q; cases q; subst e; exact h
  · rw [if_neg e] at q; exact t c' b' q
end
end J
namespace J
open PySem PySem.Spec L2
/-- {k: v}, k an int or a text -/
@[simp] def cDK1 (fk fv : CE) : CE := fun E M => (fk E M).bind fun k M => (fv E M).bind fun d M => match keyOf k with
  | some key => .ok (.dK [(key, d)]) M
  | none => .bad
section
variable {X : Cx} {ct : List (Str × List Str)} {Wx : WX} {pos : Pos}
theorem n_disp1K {ek ev : Expr} {fk fv : CE} (hk : PF X ct Wx ek fk) (hv : PF X ct Wx ev fv) : PNf X ct Wx (.Dict [some ek] [ev] pos) (cDK1 fk fv) := by
  refine PE.fin (pe_disp (pps_cons hk hv pps_nil) (by rfl) (by rfl) (fun z => nomatch z) (by simp)) ?_
  rintro σ H Q l ⟨W0, H0, W, E, M, rel, p⟩
  intro z hz
  have xa := Ext.new (o := .dK []) rel.toCRel hz
  have ra := rel.after xa (rel.toCRel.new hz)
  have la : LenOk (upd H z (.dK [])) := l.new hz (fun _ q => nomatch q) (fun _ q => nomatch q) fun _ _ q => nomatch q
  have as0 : Aside W σ E z := Aside.new rel hz
  refine ⟨W0, H0, W, E, M, ra, Post.bindU xa ra p fun d M1 W1 H1 v _ x1 rel1 r1 l1 p1 => ?_⟩
  refine ⟨W0, H0, W1, E, M1, rel1, Post.bindU (Ext.trans ra.toCRel xa x1) rel1 p1 fun d2 M2 W2 H2 v2 _ x2 rel2 r2 l2 p2 => ?_⟩
  clear p p1
  have e0 : upd H z (.dK []) z = some (.dK []) := upd_same
  have as1 := as0.mono x1 e0
  have e1 : H1 z = some (.dK []) := x1.keep z _ e0 as0.ph as0.z
  have as2 := as1.mono x2 e1
  have e2 : H2 z = some (.dK []) := x2.keep z _ e1 as1.ph as1.z
  have hc0 : CellOk (Gx X ct) W2 H2 z (.dK []) := ⟨[], e2, rfl, .nil⟩
  have z0 : H0 z = none := rel.toCRel.was rel.ext hz
  have go : ∀ key : Key, keyOf d = some key → v = kV key → (LenOk (upd H2 z (.dK [(key, v2)])) → Q (.ref z) (upd H2 z (.dK [(key, v2)]))) := by
    intro key qk ev l3
    rw [qk] at p2
    have xp := Ext0.put (o' := .dK [(key, v2)]) hc0 as2.z
    have rp := rel2.asideP (o' := .dK [(key, v2)]) z0 hc0 as2
    have xt : Ext W H W2 (upd H2 z (.dK [(key, v2)])) := by
      have xx := Ext.trans ra.toCRel xa (Ext.trans rel1.toCRel x1 x2)
      exact ⟨xx.toExt0.trans xp, xx.fr, xx.zn, fun b o h n1 n2 => by
        rw [upd_ne (fun q => by subst q; rw [hz] at h; cases h)]
        exact xx.keep b o h n1 n2⟩
    exact p2 _ _ _ xt rp ⟨z, .dK [(key, d2)], rfl, rfl, ⟨_, upd_same, rfl, .one (r2.mono xp)⟩, as2, hz⟩ l3
  cases r1 with
  | int i => exact ⟨e2, [(.inl i, v2)], rfl, by simp, go (.inl i) rfl rfl⟩
  | str x => exact ⟨e2, [(.inr x, v2)], rfl, by simp, go (.inr x) rfl rfl⟩
  | _ => exact p2.elim
end
end J
namespace J
open PySem
/-! what the functions compute: rewriting -/
@[simp] theorem view_non (M : Mem) : view M .non = .non := rfl
@[simp] theorem view_bl (M : Mem) (b : Bool) : view M (.bl b) = .bl b := rfl
@[simp] theorem view_int (M : Mem) (i : Int) : view M (.int i) = .int i := rfl
@[simp] theorem view_str (M : Mem) (x : Str) : view M (.str x) = .str x := rfl
@[simp] theorem view_tup (M : Mem) (ds : List D) : view M (.tup ds) = .tup ds := rfl
@[simp] theorem view_lst (M : Mem) (ds : List D) : view M (.lst ds) = .lst ds := rfl
@[simp] theorem view_dK (M : Mem) (kvs : List (Key × D)) : view M (.dK kvs) = .dK kvs := rfl
@[simp] theorem view_dT (M : Mem) (kvs : List (List Key × D)) : view M (.dT kvs) = .dT kvs := rfl
@[simp] theorem view_obj (M : Mem) (c : Nat) (ds : List D) : view M (.obj c ds) = .obj c ds := rfl
@[simp] theorem view_fn (M : Mem) (x : Str) : view M (.fn x) = .fn x := rfl
@[simp] theorem view_scr (M : Mem) (ds : List D) : view M (.scr ds) = .scr ds := rfl
theorem view_loc (M : Mem) (l : Nat) (c : Cell) (h : M[l]? = some c) : view M (.loc l) = c.tree := by simp [view, h]
@[simp] theorem gEq_int (a b : Int) : gEq (.int a) (.int b) = some (.bl (decide (a = b))) := rfl
@[simp] theorem gNe_int (a b : Int) : gNe (.int a) (.int b) = some (.bl (!decide (a = b))) := rfl
theorem gMul_int (a b : Int) (h : small64 a = true ∨ small64 b = true) : gMul (.int a) (.int b) = some (.int (a * b)) := by
  have h : (small64 a || small64 b) = true := by simpa using h
  show (if (small64 a || small64 b) = true then some (D.int (a * b)) else none) = _
  rw [if_pos h]
theorem gMul_tup1 (d : D) (i : Int) (k : Nat) (e : i = k) (hk : k ≤ sizeMax) : gMul (.tup [d]) (.int i) = some (.tup (List.replicate k d)) := by
  subst e
  show (if (k : Int).natAbs ≤ sizeMax ∧ [d].length * (k : Int).toNat ≤ sizeMax then some (D.tup (List.replicate (k : Int).toNat [d]).flatten) else none) = _
  have e2 : ∀ k : Nat, (List.replicate k [d]).flatten = List.replicate k d := fun k => by
    induction k with
    | zero => rfl
    | succ k ih => rw [List.replicate_succ, List.flatten_cons, ih, List.replicate_succ]; rfl
  rw [if_pos (by constructor <;> simp <;> omega), e2]
  simp
theorem gMod_int (a b : Int) (h : 0 < b) : gMod (.int a) (.int b) = some (.int (a % b)) := by
  show (if 0 < b then some (D.int (a % b)) else none) = _
  rw [if_pos h]
theorem gDiv_int (a b : Int) (h : 0 < b) (h2 : b < 1073741824) : gDiv (.int a) (.int b) = some (.int (a / b)) := by
  show (if 0 < b ∧ b < 1073741824 then some (D.int (a / b)) else none) = _
  rw [if_pos ⟨h, h2⟩]
@[simp] theorem isI_int_int (i : Int) : gIsI "int" (.int i) = some (.bl true) := rfl
@[simp] theorem isI_bool_int (i : Int) : gIsI "bool" (.int i) = some (.bl false) := rfl
@[simp] theorem isI_tuple_tup (ds : List D) : gIsI "tuple" (.tup ds) = some (.bl true) := rfl
@[simp] theorem isI_tuple_int (i : Int) : gIsI "tuple" (.int i) = some (.bl false) := rfl
@[simp] theorem isI_int_tup (ds : List D) : gIsI "int" (.tup ds) = some (.bl false) := rfl
@[simp] theorem isI_tuple_lst (ds : List D) : gIsI "tuple" (.lst ds) = some (.bl false) := rfl
@[simp] theorem isI_int_bl (b : Bool) : gIsI "int" (.bl b) = some (.bl true) := rfl
@[simp] theorem isI_bool_bl (b : Bool) : gIsI "bool" (.bl b) = some (.bl true) := rfl

@[simp] theorem ixN_z {n : Nat} (h : 0 < n) : ixN n 0 = some 0 := by unfold ixN; rw [if_pos (by omega), if_pos (by omega)]; rfl
/-! lists of ints -/
abbrev dI (ns : List Int) : List D := ns.map D.int
@[simp] theorem intsD_map : ∀ ns : List Int, intsD (ns.map D.int) = some ns
  | [] => rfl
  | n :: ns => by simp [intsD, intsD_map ns]
@[simp] theorem boolsD_map : ∀ ns : List Bool, boolsD (ns.map D.bl) = some ns
  | [] => rfl
  | n :: ns => by simp [boolsD, boolsD_map ns]
theorem gSum_tup (ns : List Int) : gSum (.tup (ns.map D.int)) = some (.int ns.sum) := by simp [gSum]
theorem gSum_lst (ns : List Int) : gSum (.lst (ns.map D.int)) = some (.int ns.sum) := by simp [gSum]
theorem gAll_lst (ns : List Bool) : gAll (.lst (ns.map D.bl)) = some (.bl (ns.all id)) := by simp [gAll]

@[simp] theorem gAll_rep (n : Nat) : gAll (.lst (List.replicate n (D.bl true))) = some (.bl true) := by
  have := gAll_lst (List.replicate n true)
  rw [List.map_replicate] at this
  rw [this]
  simp
/-! comprehensions -/
/-- what a comprehension makes where nothing is changed and all are taken -/
theorem compL_map {vs : List Nat} {g : CG} {f : CE} {E : Env} {M : Mem} {α : Type} (el : α → D) (out : α → D) (xs : List α)
    (h : ∀ x ∈ xs, ∃ E1, g (el x) (wipe E vs) = some E1 ∧ f E1 M = .ok (out x) M) : compL vs g tYes f (xs.map el) E M = .ok (xs.map out) M := by
  induction xs with
  | nil => rfl
  | cons x xs ih =>
    obtain ⟨E1, h1, h2⟩ := h x List.mem_cons_self
    rw [List.map_cons, compL, h1]
    dsimp only [tYes, R.nox, R.bind]
    rw [if_pos rfl, h2]
    dsimp only [R.nox, R.bind]
    rw [ih fun y hy => h y (List.mem_cons_of_mem _ hy)]
    rfl
/-- .. with a test -/
theorem compL_filter {vs : List Nat} {g : CG} {t : CT} {f : CE} {E : Env} {M : Mem} {α : Type} (el : α → D) (out : α → D) (ok : α → Bool) (xs : List α)
    (h : ∀ x ∈ xs, ∃ E1, g (el x) (wipe E vs) = some E1 ∧ t E1 M = .ok (ok x) M ∧ (ok x = true → f E1 M = .ok (out x) M)) : compL vs g t f (xs.map el) E M = .ok ((xs.filter ok).map out) M := by
  induction xs with
  | nil => rfl
  | cons x xs ih =>
    obtain ⟨E1, h1, h2, h3⟩ := h x List.mem_cons_self
    have ih := ih fun y hy => h y (List.mem_cons_of_mem _ hy)
    rw [List.map_cons, compL, h1]
    dsimp only
    rw [h2]
    dsimp only [R.nox, R.bind]
    cases q : ok x with
    | true =>
      rw [if_pos rfl, h3 q]
      dsimp only [R.nox, R.bind]
      rw [ih, List.filter_cons, if_pos q]
      rfl
    | false =>
      rw [if_neg Bool.false_ne_true, ih, List.filter_cons, if_neg (by rw [q]; exact Bool.false_ne_true)]
/-- a comprehension that changes cells: step by step -/
theorem compL_run {vs : List Nat} {g : CG} {f : CE} {E : Env} {α : Type} (el : α → D) (P : List D → Mem → Prop) (xs : List α)
    (h : ∀ x ∈ xs, ∀ out M, P out M → ∃ E1 d M', g (el x) (wipe E vs) = some E1 ∧ f E1 M = .ok d M' ∧ P (out ++ [d]) M') :
    ∀ out M, P out M → ∃ ds M', compL vs g tYes f (xs.map el) E M = .ok ds M' ∧ P (out ++ ds) M' := by
  induction xs with
  | nil => exact fun out M p => ⟨[], M, rfl, by rw [List.append_nil]; exact p⟩
  | cons x xs ih =>
    intro out M p
    obtain ⟨E1, d, M1, h1, h2, p1⟩ := h x List.mem_cons_self out M p
    obtain ⟨ds, M2, h3, p2⟩ := ih (fun y hy => h y (List.mem_cons_of_mem _ hy)) _ _ p1
    refine ⟨d :: ds, M2, ?_, by rw [List.append_assoc] at p2; exact p2⟩
    rw [List.map_cons, compL, h1]
    dsimp only [tYes, R.nox, R.bind]
    rw [if_pos rfl, h2]
    dsimp only [R.nox, R.bind]
    rw [h3]

theorem compL_runI {vs : List Nat} {g : CG} {f : CE} {E : Env} {α : Type} (el : α → D) (P : List D → Mem → Prop) : ∀ (xs : List α) (i0 : Nat)
    (h : ∀ i x, xs[i]? = some x → ∀ out M, out.length = i0 + i → P out M → ∃ E1 d M', g (el x) (wipe E vs) = some E1 ∧ f E1 M = .ok d M' ∧ P (out ++ [d]) M') (out : List D) (M : Mem), out.length = i0 → P out M →
    ∃ ds M', compL vs g tYes f (xs.map el) E M = .ok ds M' ∧ P (out ++ ds) M' ∧ ds.length = xs.length
  | [], i0, h, out, M, hl, p => ⟨[], M, rfl, by rw [List.append_nil]; exact p, rfl⟩
  | x :: xs, i0, h, out, M, hl, p => by
    obtain ⟨E1, d, M1, h1, h2, p1⟩ := h 0 x (by simp) out M (by simpa using hl) p
    obtain ⟨ds, M2, h3, p2, h4⟩ := compL_runI el P xs (i0 + 1) (fun i y hy out M hl hp => h (i + 1) y (by simpa using hy) out M (by omega) hp) (out ++ [d]) M1 (by simp [hl]) p1
    refine ⟨d :: ds, M2, ?_, by rw [List.append_assoc] at p2; exact p2, by simp [h4]⟩
    rw [List.map_cons, compL, h1]
    dsimp only [tYes, R.nox, R.bind]
    rw [if_pos rfl, h2]
    dsimp only [R.nox, R.bind]
    rw [h3]
theorem compL_len {vs : List Nat} {g : CG} {f : CE} : ∀ (xs : List D) E M ds M', compL vs g tYes f xs E M = .ok ds M' → ds.length = xs.length := by
  intro xs
  induction xs with
  | nil => intro E M ds M' h; rw [compL] at h; cases h; rfl
  | cons x xs ih =>
    intro E M ds M' h
    rw [compL] at h
    cases q : g x (wipe E vs) with
    | none => rw [q] at h; cases h
    | some E1 =>
      rw [q] at h
      dsimp only [tYes, R.nox, R.bind] at h
      rw [if_pos rfl] at h
      cases q2 : f E1 M with
      | bad => rw [q2] at h; cases h
      | exc _ _ _ => rw [q2] at h; cases h
      | ok d M1 =>
        rw [q2] at h
        dsimp only [R.nox, R.bind] at h
        cases q3 : compL vs g tYes f xs E M1 with
        | bad => rw [q3] at h; cases h
        | exc _ _ _ => rw [q3] at h; cases h
        | ok ds2 M2 =>
          rw [q3] at h
          cases h
          rw [List.length_cons, List.length_cons, ih _ _ _ _ q3]

/-! loops -/
/-- by a word of the turns: each turn goes on -/
theorem forL_run {g : CG} {s : CS} {α : Type} (el : α → D) (P : Nat → Env → Mem → Prop) : ∀ (xs : List α) (i0 : Nat)
    (h : ∀ (i : Nat) (x : α) E M, xs[i]? = some x → P (i0 + i) E M → ∃ E1 E2 M2, g (el x) E = some E1 ∧ (s E1 M = .ok (.nx, E2) M2 ∨ s E1 M = .ok (.ct, E2) M2) ∧ P (i0 + i + 1) E2 M2) (E : Env) (M : Mem), P i0 E M →
    ∃ E' M', forL g s (xs.map el) E M = .ok (.nx, E') M' ∧ P (i0 + xs.length) E' M'
  | [], i0, h, E, M, p => ⟨E, M, rfl, by simpa using p⟩
  | x :: xs, i0, h, E, M, p => by
    obtain ⟨E1, E2, M2, h1, h2, p2⟩ := h 0 x E M (by simp) (by simpa using p)
    obtain ⟨E', M', h3, p3⟩ := forL_run el P xs (i0 + 1) (fun i y E M hy hp => by
      have := h (i + 1) y E M (by simpa using hy) (by rw [show i0 + (i + 1) = i0 + 1 + i by omega]; exact hp)
      rw [show i0 + (i + 1) + 1 = i0 + 1 + i + 1 by omega] at this
      exact this) E2 M2 (by simpa using p2)
    refine ⟨E', M', ?_, by rw [List.length_cons, show i0 + (xs.length + 1) = i0 + 1 + xs.length by omega]; exact p3⟩
    rw [List.map_cons, forL, h1]
    dsimp only
    rcases h2 with h2 | h2 <;> (rw [h2]; exact h3)
theorem upFrom_map : ∀ (n : Nat) (a : Int), upFrom a n = (List.range n).map fun (i : Nat) => D.int (a + (i : Int))
  | 0, a => rfl
  | n + 1, a => by
    rw [upFrom, upFrom_map n (a + 1), List.range_succ_eq_map, List.map_cons, List.map_map]
    rw [show a + ((0 : Nat) : Int) = a by simp]
    congr 1
    apply List.map_congr_left
    intro i _
    simp only [Function.comp]
    congr 1
    push_cast
    omega
theorem upFrom0 (n : Nat) : upFrom 0 n = (List.range n).map fun (i : Nat) => D.int (i : Int) := by
  rw [upFrom_map]; simp
theorem pairUp_map {α β : Type} (f : α → D) (g : β → D) : ∀ (xs : List α) (ys : List β), pairUp (xs.map f) (ys.map g) = (xs.zip ys).map fun p => D.tup [f p.1, g p.2]
  | [], _ => by simp [pairUp]
  | _ :: _, [] => by simp [pairUp]
  | x :: xs, y :: ys => by simp [pairUp, pairUp_map f g xs ys]
theorem sIx_lo (n : Nat) (a : Nat) (d : Nat) : sIx n d (some (a : Int)) = min a n := by
  show (if (a : Int) < 0 then ((a : Int) + (n : Int)).toNat else min (a : Int).toNat n) = _
  rw [if_neg (by omega)]
  simp
theorem cutD_lo {ds : List D} {a : Nat} : cutD ds (some (a : Int)) none = ds.drop a := by
  unfold cutD
  rw [sIx_lo]
  show ((ds.drop (min a ds.length)).take (ds.length - min a ds.length)) = _
  rcases Nat.le_total a ds.length with h | h
  · rw [Nat.min_eq_left h, List.take_of_length_le (by simp)]
  · rw [Nat.min_eq_right h, List.drop_of_length_le h]; simp
theorem cutD_hi {ds : List D} {b : Nat} : cutD ds none (some (b : Int)) = ds.take b := by
  unfold cutD
  rw [sIx_lo]
  show ((ds.drop 0).take (min b ds.length - 0)) = _
  simp
theorem cutD_both {ds : List D} {a b : Nat} : cutD ds (some (a : Int)) (some (b : Int)) = (ds.drop a).take (b - a) := by
  unfold cutD
  rw [sIx_lo, sIx_lo]
  rcases Nat.le_total a ds.length with h | h
  · rw [Nat.min_eq_left h]
    rcases Nat.le_total b ds.length with h2 | h2
    · rw [Nat.min_eq_left h2]
    · rw [Nat.min_eq_right h2, List.take_of_length_le (by simp), List.take_of_length_le (by simp; omega)]
  · rw [Nat.min_eq_right h, List.drop_of_length_le h, List.drop_of_length_le (Nat.le_refl _)]; simp

/-! dicts -/
theorem look_mem {κ : Type} [DecidableEq κ] {kvs : List (κ × D)} {k : κ} {d : D} (h : look kvs k = some d) : (k, d) ∈ kvs := by
  unfold look at h
  obtain ⟨p, h1, h2⟩ := Option.map_eq_some_iff.mp h
  have := List.find?_some h1
  have e : p.1 = k := by simpa using this
  have hm := List.mem_of_find?_eq_some h1
  obtain ⟨a, b⟩ := p
  simp at e h2
  subst e h2
  exact hm
theorem look_any {κ : Type} [DecidableEq κ] {kvs : List (κ × D)} {k : κ} (h : (kvs.any fun kv => decide (kv.1 = k)) = true) : ∃ d, look kvs k = some d := by
  unfold look
  rw [List.any_eq_true] at h
  obtain ⟨x, hx, e⟩ := h
  cases q : kvs.find? fun kv => decide (kv.1 = k) with
  | none =>
    have := List.find?_eq_none.mp q x hx
    exact (this e).elim
  | some y => exact ⟨y.2, by simp⟩
theorem put_new {κ : Type} [DecidableEq κ] {kvs : List (κ × D)} {k : κ} {d : D} (h : (kvs.any fun kv => decide (kv.1 = k)) = false) : put kvs k d = kvs ++ [(k, d)] := by
  unfold put
  rw [if_neg (by rw [h]; exact Bool.false_ne_true)]
theorem look_new {κ : Type} [DecidableEq κ] {kvs : List (κ × D)} {k : κ} {d : D} (h : (kvs.any fun kv => decide (kv.1 = k)) = false) : look (kvs ++ [(k, d)]) k = some d := by
  unfold look
  rw [List.find?_append]
  have : (kvs.find? fun kv => decide (kv.1 = k)) = none := by
    rw [List.find?_eq_none]
    intro x hx q
    have : (kvs.any fun kv => decide (kv.1 = k)) = true := List.any_eq_true.mpr ⟨x, hx, q⟩
    rw [h] at this; cases this
  rw [this]
  simp
theorem look_put {κ : Type} [DecidableEq κ] {kvs : List (κ × D)} {k : κ} {d : D} : look (put kvs k d) k = some d := by
  cases h : kvs.any fun kv => decide (kv.1 = k) with
  | false => rw [put_new h]; exact look_new h
  | true =>
    unfold put
    rw [if_pos h]
    have go : ∀ kvs : List (κ × D), (kvs.any fun kv => decide (kv.1 = k)) = true → look (kvs.map fun kv => if kv.1 = k then (kv.1, d) else kv) k = some d := by
      intro kvs
      induction kvs with
      | nil => intro h; cases h
      | cons p r ih =>
        intro h
        by_cases e : p.1 = k
        · simp [look, e]
        · have h2 : (r.any fun kv => decide (kv.1 = k)) = true := by simpa [e] using h
          have := ih h2
          unfold look at this ⊢
          rw [List.map_cons, List.find?_cons]
          simp only [e, if_false]
          simpa using this
    exact go kvs h
theorem mem_put {κ : Type} [DecidableEq κ] {kvs : List (κ × D)} {k : κ} {d : D} {p : κ × D} (h : p ∈ put kvs k d) : p = (k, d) ∨ p ∈ kvs := by
  unfold put at h
  split at h
  · obtain ⟨q, h1, h2⟩ := List.mem_map.mp h
    by_cases e : q.1 = k
    · rw [if_pos e] at h2; left; rw [← h2, e]
    · rw [if_neg e] at h2; right; rw [← h2]; exact h1
  · rcases List.mem_append.mp h with q | q
    · exact .inr q
    · exact .inl (List.mem_singleton.mp q)
theorem put_nodup {κ : Type} [DecidableEq κ] {kvs : List (κ × D)} {k : κ} {d : D} (h : (kvs.map (·.1)).Nodup) : ((put kvs k d).map (·.1)).Nodup := by
  unfold put
  split
  · have : (kvs.map fun kv => if kv.1 = k then (kv.1, d) else kv).map (·.1) = kvs.map (·.1) := by
      rw [List.map_map]
      apply List.map_congr_left
      intro x _
      by_cases e : x.1 = k
      · simp [e]
      · simp [e]
    rw [this]; exact h
  · rename_i hn
    rw [List.map_append]
    refine List.nodup_append.mpr ⟨h, by simp, fun a ha b hb q => hn ?_⟩
    obtain ⟨x, hx, rfl⟩ := List.mem_map.mp ha
    simp at hb
    rw [List.any_eq_true]
    exact ⟨x, hx, by simp [q, hb]⟩
/-- the least of a list of numbers -/
theorem foldl_min_sp : ∀ (ns : List Int) (a : Int), ns.foldl min a ≤ a ∧ (∀ x ∈ ns, ns.foldl min a ≤ x) ∧ (ns.foldl min a = a ∨ ns.foldl min a ∈ ns)
  | [], a => ⟨Int.le_refl _, fun x h => (nomatch h), .inl rfl⟩
  | n :: ns, a => by
    obtain ⟨h1, h2, h3⟩ := foldl_min_sp ns (min a n)
    rw [List.foldl_cons]
    refine ⟨by omega, fun x hx => ?_, ?_⟩
    · rcases List.mem_cons.mp hx with q | q
      · subst q; omega
      · exact h2 x q
    · rcases h3 with q | q
      · rw [q]
        rcases Int.le_total a n with z | z
        · left; omega
        · right
          have : min a n = n := by omega
          rw [this]; exact List.mem_cons_self
      · right; exact List.mem_cons_of_mem _ q
theorem minL_spec {ns : List Int} {v : Int} (h : minL ns = some v) : v ∈ ns ∧ ∀ x ∈ ns, v ≤ x := by
  cases ns with
  | nil => cases h
  | cons n ns =>
    cases h
    obtain ⟨h1, h2, h3⟩ := foldl_min_sp ns n
    refine ⟨?_, fun x hx => ?_⟩
    · rcases h3 with q | q
      · rw [q]; exact List.mem_cons_self
      · exact List.mem_cons_of_mem _ q
    · rcases List.mem_cons.mp hx with q | q
      · subst q; exact h1
      · exact h2 x q
theorem minL_some {ns : List Int} (h : ns ≠ []) : ∃ v, minL ns = some v := by
  cases ns with
  | nil => exact (h rfl).elim
  | cons n ns => exact ⟨_, rfl⟩
theorem gMin_lst {ns : List Int} {v : Int} (h : minL ns = some v) : gMin (.lst (ns.map D.int)) = some (.int v) := by simp [gMin, h]
theorem foldl_max_sp : ∀ (ns : List Int) (a : Int), a ≤ ns.foldl max a ∧ (∀ x ∈ ns, x ≤ ns.foldl max a) ∧ (ns.foldl max a = a ∨ ns.foldl max a ∈ ns)
  | [], a => ⟨Int.le_refl _, fun x h => (nomatch h), .inl rfl⟩
  | n :: ns, a => by
    obtain ⟨h1, h2, h3⟩ := foldl_max_sp ns (max a n)
    rw [List.foldl_cons]
    refine ⟨by omega, fun x hx => ?_, ?_⟩
    · rcases List.mem_cons.mp hx with q | q
      · subst q; omega
      · exact h2 x q
    · rcases h3 with q | q
      · rw [q]
        rcases Int.le_total a n with z | z
        · right
          have : max a n = n := by omega
          rw [this]; exact List.mem_cons_self
        · left; omega
      · right; exact List.mem_cons_of_mem _ q
theorem maxL_spec {ns : List Int} {v : Int} (h : maxL ns = some v) : v ∈ ns ∧ ∀ x ∈ ns, x ≤ v := by
  cases ns with
  | nil => cases h
  | cons n ns =>
    cases h
    obtain ⟨h1, h2, h3⟩ := foldl_max_sp ns n
    refine ⟨?_, fun x hx => ?_⟩
    · rcases h3 with q | q
      · rw [q]; exact List.mem_cons_self
      · exact List.mem_cons_of_mem _ q
    · rcases List.mem_cons.mp hx with q | q
      · subst q; exact h1
      · exact h2 x q
theorem maxL_some {ns : List Int} (h : ns ≠ []) : ∃ v, maxL ns = some v := by
  cases ns with
  | nil => exact (h rfl).elim
  | cons n ns => exact ⟨_, rfl⟩
theorem gMax_tup {ns : List Int} (h : ns ≠ []) : ∃ v, gMax (.tup (ns.map D.int)) = some (.int v) ∧ v ∈ ns ∧ ∀ x ∈ ns, x ≤ v := by
  obtain ⟨v, hv⟩ := maxL_some h
  exact ⟨v, by simp [gMax, hv], maxL_spec hv⟩
/-- so many numbers below n there are at most -/
theorem nodup_len : ∀ (n : Nat) (xs : List Nat), xs.Nodup → (∀ x ∈ xs, x < n) → xs.length ≤ n
  | 0, xs, _, h => by
    cases xs with
    | nil => simp
    | cons x xs => have := h x List.mem_cons_self; omega
  | n + 1, xs, nd, h => by
    by_cases q : n ∈ xs
    · have h1 := nodup_len n (xs.erase n) (nd.erase n) fun x hx => by
        have h2 := h x (List.mem_of_mem_erase hx)
        have h3 : x ≠ n := fun e => by
          subst e
          exact (List.Nodup.mem_erase_iff nd).mp hx |>.1 rfl
        omega
      rw [List.length_erase_of_mem q] at h1
      omega
    · have := nodup_len n xs nd fun x hx => by
        have h2 := h x hx
        have h3 : x ≠ n := fun e => q (e ▸ hx)
        omega
      omega
end J
namespace PM
/-! ## plans: each hour joins runs from the youngest on; st: the hours where the runs begin -/
/-- the sizes from hour g to hour h -/
def S (sz : List Int) (g h : Nat) : Int := ((sz.drop g).take (h + 1 - g)).sum
inductive Path (sz : List Int) (m h0 : Nat) : Nat → List Nat → List Nat → Int → Prop
  | nil : Path sz m h0 h0 [] [] 0
  | step {h : Nat} {st pl : List Nat} {c : Int} (p : Path sz m h0 h st pl c) (a g : Nat) (ha : a < m) (hg : (st ++ [h])[a]? = some g) : Path sz m h0 (h + 1) (st.take a ++ [g]) (pl ++ [g]) (c + S sz g h)
section
variable {sz : List Int} {m m' h0 h t L : Nat} {st pl st1 st2 pl1 pl2 : List Nat} {c c1 c2 : Int}
theorem Path.le (p : Path sz m h0 h st pl c) : h0 ≤ h := by
  induction p with
  | nil => exact Nat.le_refl _
  | step _ _ _ _ _ ih => omega
theorem Path.len (p : Path sz m h0 h st pl c) : h = h0 + pl.length := by
  induction p with
  | nil => simp
  | step _ _ _ _ _ ih => rw [List.length_append, List.length_singleton]; omega
theorem Path.stl (p : Path sz m h0 h st pl c) : st.length ≤ h - h0 := by
  have := p.le
  induction p with
  | nil => simp
  | @step h st pl c p a g ha hg ih =>
    have := ih p.le
    have := p.le
    rw [List.length_append, List.length_take, List.length_singleton]
    have : a < (st ++ [h]).length := (List.getElem?_eq_some_iff.mp hg).1
    rw [List.length_append, List.length_singleton] at this
    omega
/-- more runs let more -/
theorem Path.mono (p : Path sz m h0 h st pl c) (hm : m ≤ m') : Path sz m' h0 h st pl c := by
  induction p with
  | nil => exact .nil
  | step _ a g ha hg ih => exact .step ih a g (Nat.lt_of_lt_of_le ha hm) hg
/-- no more runs than hours -/
theorem Path.cap (p : Path sz m h0 h st pl c) (hl : h ≤ h0 + L) : Path sz (min m L) h0 h st pl c := by
  induction p with
  | nil => exact .nil
  | @step h st pl c p a g ha hg ih =>
    refine .step (ih (by omega)) a g ?_ hg
    have h1 : a < (st ++ [h]).length := (List.getElem?_eq_some_iff.mp hg).1
    rw [List.length_append, List.length_singleton] at h1
    have := p.stl
    have := p.le
    omega
/-- split at the last hour that writes the eldest run -/
theorem Path.split (p : Path sz m h0 h st pl c) (hh : h0 < h) : 0 < m ∧ ∃ t st1 pl1 c1 st2 pl2 c2, h0 ≤ t ∧ t < h ∧ Path sz m h0 t st1 pl1 c1 ∧ Path sz (m - 1) (t + 1) h st2 pl2 c2 ∧ st = h0 :: st2 ∧ c = c1 + S sz h0 t + c2 := by
  induction p with
  | nil => omega
  | @step h st pl c p a g ha hg ih =>
    refine ⟨by omega, ?_⟩
    by_cases q : h0 < h
    · obtain ⟨_, t, st1, pl1, c1, st2, pl2, c2, h1, h2, p1, p2, e1, e2⟩ := ih q
      subst e1
      cases a with
      | zero =>
        simp at hg
        subst hg
        exact ⟨h, _, _, _, [], [], 0, by omega, by omega, p, .nil, by simp, by simp⟩
      | succ a =>
        refine ⟨t, st1, pl1, c1, st2.take a ++ [g], pl2 ++ [g], c2 + S sz g h, h1, by omega, p1, .step p2 a g (by omega) (by simpa using hg), by simp, ?_⟩
        rw [e2]; omega
    · have e : h = h0 := by have := p.le; omega
      subst e
      have hs : st = [] := by
        have := p.stl
        simpa using this
      subst hs
      cases a with
      | zero =>
        simp at hg
        subst hg
        exact ⟨h, [], _, _, [], [], 0, by omega, by omega, p, .nil, by simp, by simp⟩
      | succ a => simp at hg
/-- and put together -/
theorem Path.join (p1 : Path sz m h0 t st1 pl1 c1) (hm : 0 < m) (p2 : Path sz (m - 1) (t + 1) h st2 pl2 c2) : ∃ pl, Path sz m h0 h (h0 :: st2) pl (c1 + S sz h0 t + c2) := by
  have base : Path sz m h0 (t + 1) [h0] (pl1 ++ [h0]) (c1 + S sz h0 t) := by
    refine .step (st := st1) p1 0 h0 hm ?_
    by_cases q : h0 < t
    · obtain ⟨_, _, _, _, _, _, _, _, _, _, _, _, e, _⟩ := p1.split q
      subst e; simp
    · have e : t = h0 := by have := p1.le; omega
      subst e
      have hs : st1 = [] := by have := p1.stl; simpa using this
      subst hs; simp
  induction p2 with
  | nil => exact ⟨_, by rw [Int.add_zero]; exact base⟩
  | @step h st pl c p a g ha hg ih =>
    obtain ⟨pl', q⟩ := ih
    refine ⟨pl' ++ [g], ?_⟩
    have := Path.step q (a + 1) g (by omega) (by simpa using hg)
    rw [Int.add_assoc] at this
    simpa using this
/-- v is the least cost from hour h0 to hour h -/
def Least (sz : List Int) (m h0 h : Nat) (v : Int) : Prop := (∃ st pl, Path sz m h0 h st pl v) ∧ ∀ st pl c, Path sz m h0 h st pl c → v ≤ c
theorem Least.uniq {v w : Int} (a : Least sz m h0 h v) (b : Least sz m h0 h w) : v = w := by
  obtain ⟨⟨_, _, p⟩, la⟩ := a
  obtain ⟨⟨_, _, q⟩, lb⟩ := b
  have := la _ _ _ q
  have := lb _ _ _ p
  omega
theorem Least.nil : Least sz m h h 0 := by
  refine ⟨⟨[], [], .nil⟩, fun st pl c p => ?_⟩
  cases p with
  | nil => exact Int.le_refl _
  | step p => have := p.le; omega
theorem Least.cap {v : Int} (a : Least sz (min m (h - h0)) h0 h v) (hh : h0 ≤ h) : Least sz m h0 h v := by
  obtain ⟨⟨st, pl, p⟩, l⟩ := a
  refine ⟨⟨st, pl, p.mono (Nat.min_le_left _ _)⟩, fun st pl c q => l st pl c (q.cap (by omega))⟩
theorem Least.uncap {v : Int} (a : Least sz m h0 h v) (hh : h0 ≤ h) : Least sz (min m (h - h0)) h0 h v := by
  obtain ⟨⟨st, pl, p⟩, l⟩ := a
  refine ⟨⟨st, pl, p.cap (by omega)⟩, fun st pl c q => l st pl c (q.mono (Nat.min_le_left _ _))⟩
theorem no_path (hh : h0 < h) : ¬ Path sz 0 h0 h st pl c := fun p => by
  have := (p.split hh).1
  omega
/-- what the eldest run's last hour at t costs at least -/
def Cand (sz : List Int) (m h0 h t : Nat) (v : Int) : Prop := ∃ c1 c2, Least sz m h0 t c1 ∧ Least sz (m - 1) (t + 1) h c2 ∧ v = c1 + S sz h0 t + c2
/-- the least of the candidates -/
theorem least_of (hm : 0 < m) (hh : h0 < h) (v : Int) (h1 : ∃ t, h0 ≤ t ∧ t < h ∧ Cand sz m h0 h t v)
    (h2 : ∀ t, h0 ≤ t → t < h → (∃ w, Cand sz m h0 h t w ∧ v ≤ w) ∨ (m = 1 ∧ t + 1 < h)) : Least sz m h0 h v := by
  obtain ⟨t, _, _, c1, c2, ⟨⟨st1, pl1, p1⟩, _⟩, ⟨⟨st2, pl2, p2⟩, _⟩, e⟩ := h1
  obtain ⟨pl, p⟩ := p1.join hm p2
  refine ⟨⟨_, pl, by rw [e]; exact p⟩, fun st pl c q => ?_⟩
  obtain ⟨_, t, st1, pl1, c1, st2, pl2, c2, b1, b2, q1, q2, _, ec⟩ := q.split hh
  rcases h2 t b1 b2 with ⟨w, ⟨d1, d2, l1, l2, ew⟩, hw⟩ | ⟨rfl, z⟩
  · have := l1.2 _ _ _ q1
    have := l2.2 _ _ _ q2
    omega
  · exact (no_path (by omega) q2).elim
/-- with more runs it is no more -/
theorem Least.mono {v w : Int} (a : Least sz m h0 h v) (b : Least sz m' h0 h w) (hm : m ≤ m') : w ≤ v := by
  obtain ⟨⟨st, pl, p⟩, _⟩ := a
  exact b.2 _ _ _ (p.mono hm)
/-- one run -/
theorem Path.one (p : Path sz 1 h0 h st pl c) : pl = List.replicate (h - h0) h0 ∧ (st = [] ∧ h = h0 ∨ st = [h0]) := by
  induction p with
  | nil => simp
  | @step h st pl c p a g ha hg ih =>
    have := p.le
    have ea : a = 0 := by omega
    subst ea
    obtain ⟨e, hs⟩ := ih
    have eg : g = h0 := by
      rcases hs with ⟨hs, eh⟩ | hs
      · subst hs eh; simpa using hg.symm
      · subst hs; simpa using hg.symm
    subst eg
    refine ⟨?_, by simp⟩
    rw [e, show h + 1 - g = (h - g) + 1 by omega, List.replicate_succ']
/-- sizes all taken so many times -/
theorem S_mul (k : Int) (g h : Nat) : S (sz.map (· * k)) g h = S sz g h * k := by
  unfold S
  rw [← List.map_drop, ← List.map_take]
  have : ∀ xs : List Int, (xs.map (· * k)).sum = xs.sum * k := by
    intro xs
    induction xs with
    | nil => simp
    | cons x xs ih => rw [List.map_cons, List.sum_cons, List.sum_cons, ih, Int.add_mul]
  exact this _
theorem Path.mul (k : Int) (p : Path sz m h0 h st pl c) : Path (sz.map (· * k)) m h0 h st pl (c * k) := by
  induction p with
  | nil => rw [Int.zero_mul]; exact .nil
  | step p a g ha hg ih =>
    rw [Int.add_mul, ← S_mul]
    exact .step ih a g ha hg
theorem Path.unmul (k : Int) (p : Path (sz.map (· * k)) m h0 h st pl c) : ∃ c', c = c' * k ∧ Path sz m h0 h st pl c' := by
  induction p with
  | nil => exact ⟨0, by simp, .nil⟩
  | step p a g ha hg ih =>
    obtain ⟨c', e, q⟩ := ih
    exact ⟨c' + S sz g _, by rw [e, S_mul, Int.add_mul], .step q a g ha hg⟩
theorem Least.mul {v : Int} (k : Int) (hk : 0 ≤ k) (a : Least sz m h0 h v) : Least (sz.map (· * k)) m h0 h (v * k) := by
  obtain ⟨⟨st, pl, p⟩, l⟩ := a
  refine ⟨⟨st, pl, p.mul k⟩, fun st pl c q => ?_⟩
  obtain ⟨c', e, q⟩ := q.unmul
  rw [e]
  exact Int.mul_le_mul_of_nonneg_right (l _ _ _ q) hk
/-- the runs begin at rising hours -/
theorem Path.sorted (p : Path sz m h0 h st pl c) : st.Pairwise (· < ·) ∧ ∀ x ∈ st, x < h := by
  induction p with
  | nil => exact ⟨List.Pairwise.nil, fun x hx => by cases hx⟩
  | @step h st pl c p a g ha hg ih =>
    obtain ⟨s1, s2⟩ := ih
    have hs : (st ++ [h]).Pairwise (· < ·) := List.pairwise_append.mpr ⟨s1, by simp, fun x hx y hy => by rw [List.mem_singleton.mp hy]; exact s2 x hx⟩
    have hlt : a < (st ++ [h]).length := (List.getElem?_eq_some_iff.mp hg).1
    have hal : a ≤ st.length := by rw [List.length_append, List.length_singleton] at hlt; omega
    have e : st.take a ++ [g] = (st ++ [h]).take (a + 1) := by
      rw [List.take_add_one, hg, List.take_append_of_le_length hal]; rfl
    rw [e]
    refine ⟨hs.sublist (List.take_sublist _ _), fun x hx => ?_⟩
    have hx := List.mem_of_mem_take hx
    rcases List.mem_append.mp hx with q | q
    · have := s2 x q; omega
    · rw [List.mem_singleton.mp q]; omega
end
/-- what a plan writes -/
def paidFrom (sz : List Int) : Nat → List Nat → Int
  | _, [] => 0
  | h, g :: r => S sz g h + paidFrom sz (h + 1) r
theorem paidFrom_snoc (sz : List Int) (g : Nat) : ∀ (h : Nat) (pl : List Nat), paidFrom sz h (pl ++ [g]) = paidFrom sz h pl + S sz g (h + pl.length)
  | h, [] => by simp [paidFrom]
  | h, x :: pl => by
    rw [List.cons_append, paidFrom, paidFrom_snoc sz g (h + 1) pl, paidFrom, List.length_cons, show h + 1 + pl.length = h + (pl.length + 1) by omega]
    omega
theorem Path.paid {sz : List Int} {m h0 h : Nat} {st pl : List Nat} {c : Int} (p : Path sz m h0 h st pl c) : c = paidFrom sz h0 pl := by
  induction p with
  | nil => rfl
  | step p a g ha hg ih => rw [paidFrom_snoc, ← ih, ← p.len]
theorem paid_sum (sz : List Int) : ∀ (h : Nat) (pl : List Nat), (((List.range' h pl.length).zip pl).map fun p => S sz p.2 p.1).sum = paidFrom sz h pl
  | h, [] => rfl
  | h, g :: pl => by
    rw [List.length_cons, List.range'_succ, List.zip_cons_cons, List.map_cons, List.sum_cons, paid_sum sz (h + 1) pl]
    rfl
/-- a plan, seen from its first hour -/
def PlanOk : Nat → List Nat → List Nat → Prop
  | _, _, [] => True
  | h, b, g :: r => g ≤ h ∧ (g = h ∨ g ∈ b) ∧ PlanOk (h + 1) (b.filter (· < g) ++ [g]) r
def after (b pl : List Nat) : List Nat := pl.foldl (fun b g => b.filter (· < g) ++ [g]) b
theorem PlanOk.snoc (g : Nat) : ∀ {h : Nat} {b pl : List Nat}, PlanOk h b pl → g ≤ h + pl.length → (g = h + pl.length ∨ g ∈ after b pl) → PlanOk h b (pl ++ [g])
  | h, b, [], _, h1, h2 => by simpa [PlanOk, after] using ⟨h1, h2⟩
  | h, b, x :: pl, p, h1, h2 => by
    obtain ⟨p0, p1, p2⟩ := p
    refine ⟨p0, p1, p2.snoc g (by rw [List.length_cons] at h1; omega) ?_⟩
    rcases h2 with h2 | h2
    · left; rw [List.length_cons] at h2; omega
    · right; exact h2
theorem filter_take {st : List Nat} {h a g : Nat} (s1 : st.Pairwise (· < ·)) (s2 : ∀ x ∈ st, x < h) (hg : (st ++ [h])[a]? = some g) : st.filter (· < g) = st.take a := by
  have hs : (st ++ [h]).Pairwise (· < ·) := List.pairwise_append.mpr ⟨s1, by simp, fun x hx y hy => by rw [List.mem_singleton.mp hy]; exact s2 x hx⟩
  obtain ⟨hlt, eg⟩ := List.getElem?_eq_some_iff.mp hg
  have hal : a ≤ st.length := by rw [List.length_append, List.length_singleton] at hlt; omega
  have hp := List.pairwise_iff_getElem.mp hs
  have e : st = st.take a ++ st.drop a := (List.take_append_drop a st).symm
  have f1 : (st.take a).filter (· < g) = st.take a := by
    rw [List.filter_eq_self]
    intro x hx
    obtain ⟨i, hi, ei⟩ := List.getElem_of_mem hx
    rw [List.length_take] at hi
    rw [List.getElem_take] at ei
    have := hp i a (by rw [List.length_append]; omega) hlt (by omega)
    rw [List.getElem_append_left (by omega), eg] at this
    rw [← ei]; exact decide_eq_true this
  have f2 : (st.drop a).filter (· < g) = [] := by
    rw [List.filter_eq_nil_iff]
    intro x hx
    obtain ⟨i, hi, ei⟩ := List.getElem_of_mem hx
    rw [List.length_drop] at hi
    rw [List.getElem_drop] at ei
    have hge : g ≤ x := by
      rcases Nat.eq_zero_or_pos i with z | z
      · subst z
        rw [List.getElem_append_left (by omega)] at eg
        rw [← ei, ← eg]; exact Nat.le_refl _
      · have := hp a (a + i) hlt (by rw [List.length_append]; omega) (by omega)
        rw [List.getElem_append_left (i := a + i) (by omega), eg, ei] at this
        omega
    simp; omega
  rw [show st.filter (· < g) = (st.take a ++ st.drop a).filter (· < g) by rw [← e], List.filter_append, f1, f2, List.append_nil]
theorem Path.planOk {sz : List Int} {m h : Nat} {st pl : List Nat} {c : Int} (p : Path sz m 0 h st pl c) : PlanOk 0 [] pl ∧ after [] pl = st := by
  induction p with
  | nil => exact ⟨True.intro, rfl⟩
  | @step h st pl c p a g ha hg ih =>
    obtain ⟨i1, i2⟩ := ih
    obtain ⟨s1, s2⟩ := p.sorted
    have hl := p.len
    have hm : g = h ∨ g ∈ st := by
      have := List.mem_of_getElem? hg
      rcases List.mem_append.mp this with q | q
      · exact .inr q
      · exact .inl (List.mem_singleton.mp q)
    have hle : g ≤ h := by
      rcases hm with q | q
      · omega
      · have := s2 g q; omega
    refine ⟨i1.snoc g (by omega) ?_, ?_⟩
    · rcases hm with q | q
      · left; omega
      · right; rw [i2]; exact q
    · unfold after
      rw [List.foldl_append]
      show (after [] pl).filter (· < g) ++ [g] = _
      rw [i2, filter_take s1 s2 hg]
theorem sorted_ext : ∀ (a b : List Nat), a.Pairwise (· < ·) → b.Pairwise (· < ·) → (∀ x, x ∈ a ↔ x ∈ b) → a = b
  | [], [], _, _, _ => rfl
  | [], y :: b, _, _, h => by have := (h y).mpr List.mem_cons_self; cases this
  | x :: a, [], _, _, h => by have := (h x).mp List.mem_cons_self; cases this
  | x :: a, y :: b, ha, hb, h => by
    rw [List.pairwise_cons] at ha hb
    have e : x = y := by
      have h1 := (h x).mp List.mem_cons_self
      have h2 := (h y).mpr List.mem_cons_self
      rcases List.mem_cons.mp h1 with q | q
      · exact q
      · rcases List.mem_cons.mp h2 with r | r
        · exact r.symm
        · have := hb.1 x q; have := ha.1 y r; omega
    subst e
    rw [sorted_ext a b ha.2 hb.2 fun z => ?_]
    have hz := h z
    rw [List.mem_cons, List.mem_cons] at hz
    constructor
    · intro q
      have := ha.1 z q
      rcases hz.mp (.inr q) with r | r
      · omega
      · exact r
    · intro q
      have := hb.1 z q
      rcases hz.mpr (.inr q) with r | r
      · omega
      · exact r
/-- a set of hours as a number -/
def bits (st : List Nat) : Nat := st.foldr (fun x acc => 2 ^ x ||| acc) 0
theorem bits_mem (i : Nat) : ∀ st : List Nat, (bits st).testBit i = decide (i ∈ st)
  | [] => by simp [bits]
  | x :: st => by
    have ih := bits_mem i st
    show (2 ^ x ||| bits st).testBit i = _
    rw [Nat.testBit_or, ih, Nat.testBit_two_pow]
    by_cases q : x = i
    · subst q; simp
    · have : ¬ i = x := fun z => q z.symm
      simp [q, this]
theorem bits_lt {n : Nat} : ∀ {st : List Nat}, (∀ x ∈ st, x < n) → bits st < 2 ^ n
  | [], _ => by show 0 < 2 ^ n; exact Nat.two_pow_pos n
  | x :: st, h => by
    show 2 ^ x ||| bits st < 2 ^ n
    exact Nat.or_lt_two_pow (Nat.pow_lt_pow_right (by decide) (h x List.mem_cons_self)) (bits_lt fun y hy => h y (List.mem_cons_of_mem _ hy))
theorem bits_inj {a b : List Nat} (ha : a.Pairwise (· < ·)) (hb : b.Pairwise (· < ·)) (e : bits a = bits b) : a = b :=
  sorted_ext a b ha hb fun x => by
    have := bits_mem x a
    rw [e, bits_mem x b] at this
    exact ⟨fun q => by rw [decide_eq_true q] at this; exact of_decide_eq_true this, fun q => by rw [decide_eq_true q] at this; exact of_decide_eq_true this.symm⟩
end PM
/-! Burdens: what no plan goes below. -/
namespace PB
open PM
/-- a run of a burden: first hour, last hour, what it bears -/
structure R where
  a : Nat
  e : Nat
  x : Int
def Tile : Nat → List R → Nat → Prop
  | lo, [], hi => lo = hi
  | lo, r :: rs, hi => r.a = lo ∧ lo ≤ r.e ∧ Tile (r.e + 1) rs hi
theorem Tile.le : ∀ {rs : List R} {lo hi : Nat}, Tile lo rs hi → lo ≤ hi
  | [], _, _, h => Nat.le_of_eq h
  | r :: rs, _, _, h => by have := Tile.le h.2.2; have := h.2.1; omega
theorem Tile.mem : ∀ {rs : List R} {lo hi : Nat}, Tile lo rs hi → ∀ r ∈ rs, lo ≤ r.a ∧ r.a ≤ r.e ∧ r.e < hi
  | r :: rs, lo, hi, h, q, hq => by
    have l := Tile.le h.2.2
    obtain ⟨h1, h2, h3⟩ := h
    rcases List.mem_cons.mp hq with rfl | hq
    · omega
    · have := Tile.mem h3 q hq; omega
theorem Tile.snoc : ∀ {rs : List R} {lo hi : Nat} {r : R}, Tile lo rs r.a → r.a ≤ r.e → hi = r.e + 1 → Tile lo (rs ++ [r]) hi
  | [], lo, hi, r, h, l, e => ⟨h.symm, by have : lo = r.a := h; omega, e.symm⟩
  | q :: rs, lo, hi, r, h, l, e => ⟨h.1, h.2.1, Tile.snoc h.2.2 l e⟩
theorem Tile.cut : ∀ {rs : List R} {lo hi g : Nat}, Tile lo rs hi → (g ∈ rs.map (·.a) ∨ g = hi) → Tile lo (rs.filter fun r => decide (r.a < g)) g
  | [], lo, hi, g, h, q => by
    rcases q with q | q
    · cases q
    · show lo = g; rw [q]; exact h
  | r :: rs, lo, hi, g, h, q => by
    have l := Tile.le h.2.2
    obtain ⟨h1, h2, h3⟩ := h
    by_cases c : r.a < g
    · rw [List.filter_cons_of_pos (by simpa using c)]
      refine ⟨h1, h2, Tile.cut h3 ?_⟩
      rcases q with q | q
      · rw [List.map_cons, List.mem_cons] at q
        rcases q with q | q
        · omega
        · exact .inl q
      · exact .inr q
    · rw [List.filter_cons_of_neg (by simpa using c)]
      have : rs.filter (fun r => decide (r.a < g)) = [] := by
        rw [List.filter_eq_nil_iff]
        intro x hx
        have := (h3.mem x hx).1
        simp; omega
      rw [this]
      show lo = g
      rcases q with q | q
      · rw [List.map_cons, List.mem_cons] at q
        rcases q with q | q
        · omega
        · obtain ⟨x, hx, e⟩ := List.mem_map.mp q
          have := (h3.mem x hx).1
          omega
      · omega
theorem Tile.map (f : R → R) (hf : ∀ r, (f r).a = r.a ∧ (f r).e = r.e) : ∀ {rs : List R} {lo hi : Nat}, Tile lo rs hi → Tile lo (rs.map f) hi
  | [], _, _, h => h
  | r :: rs, _, _, h => ⟨by rw [(hf r).1]; exact h.1, by rw [(hf r).2]; exact h.2.1, by rw [(hf r).2]; exact Tile.map f hf h.2.2⟩
/-- one run is free -/
theorem Tile.count {w : List Nat} : ∀ {rs : List R} {lo hi : Nat}, Tile lo rs hi → (∀ r ∈ rs, ∃ x ∈ w, r.a < x ∧ x ≤ r.e + 1) → rs.length ≤ (w.filter fun x => decide (lo < x)).length
  | [], _, _, _, _ => Nat.zero_le _
  | r :: rs, lo, hi, h, q => by
    obtain ⟨h1, h2, h3⟩ := h
    have ih := Tile.count h3 fun r hr => q r (List.mem_cons_of_mem _ hr)
    obtain ⟨x, hx, x1, x2⟩ := q r List.mem_cons_self
    have key : ∀ w : List Nat, x ∈ w → (w.filter fun y => decide (r.e + 1 < y)).length + 1 ≤ (w.filter fun y => decide (lo < y)).length := by
      intro w
      have mono : ∀ w : List Nat, (w.filter fun y => decide (r.e + 1 < y)).length ≤ (w.filter fun y => decide (lo < y)).length := fun w => by
        rw [← List.countP_eq_length_filter, ← List.countP_eq_length_filter]
        exact List.countP_mono_left fun y _ hy => by simp at hy ⊢; omega
      induction w with
      | nil => intro h; cases h
      | cons y w ih =>
        intro hw
        rcases List.mem_cons.mp hw with e | hw
        · subst e
          rw [List.filter_cons_of_neg (by simp; omega), List.filter_cons_of_pos (by simp; omega)]
          exact Nat.succ_le_succ (mono w)
        · have := ih hw
          by_cases c : r.e + 1 < y
          · rw [List.filter_cons_of_pos (by simpa using c), List.filter_cons_of_pos (by simp; omega)]
            exact Nat.succ_le_succ this
          · rw [List.filter_cons_of_neg (by simpa using c)]
            by_cases c2 : lo < y
            · rw [List.filter_cons_of_pos (by simpa using c2)]; simp; omega
            · rw [List.filter_cons_of_neg (by simpa using c2)]; exact this
    have := key w hx
    rw [List.length_cons]; omega
/-- free: no begin of w in (a, e + 1] -/
def free (w : List Nat) (r : R) : Bool := w.all fun x => !(decide (r.a < x) && decide (x ≤ r.e + 1))
theorem free_iff {w : List Nat} {r : R} : free w r = true ↔ ∀ x ∈ w, ¬ (r.a < x ∧ x ≤ r.e + 1) := by
  unfold free
  rw [List.all_eq_true]
  constructor
  · intro h x hx q; have := h x hx; simp at this; omega
  · intro h x hx; have := h x hx; simp; omega
theorem Tile.one_free {w : List Nat} {rs : List R} {hi : Nat} (h : Tile 0 rs hi) (h0 : 0 ∈ w) (hl : w.length ≤ rs.length) : ∃ r ∈ rs, free w r = true := by
  apply Classical.byContradiction
  intro no
  have q : ∀ r ∈ rs, ∃ x ∈ w, r.a < x ∧ x ≤ r.e + 1 := fun r hr => by
    apply Classical.byContradiction
    intro c
    exact no ⟨r, hr, free_iff.mpr fun x hx z => c ⟨x, hx, z⟩⟩
  have h1 := h.count q
  have h2 : (w.filter fun x => decide (0 < x)).length < w.length := by
    clear no q h1 hl
    induction w with
    | nil => cases h0
    | cons y w ih =>
      have := List.length_filter_le (fun x => decide (0 < x)) w
      rcases List.mem_cons.mp h0 with e | h0
      · subst e
        rw [List.filter_cons_of_neg (by simp), List.length_cons]; omega
      · have := ih h0
        by_cases c : 0 < y
        · rw [List.filter_cons_of_pos (by simpa using c), List.length_cons, List.length_cons]; omega
        · rw [List.filter_cons_of_neg (by simpa using c), List.length_cons]; omega
  omega
/-- the sizes of some hours -/
def WS (sz : List Int) (T : Nat → Bool) (lo : Nat) : Nat → Int
  | 0 => 0
  | n + 1 => (if T lo then sz.getD lo 0 else 0) + WS sz T (lo + 1) n
theorem WS_add (sz : List Int) (T : Nat → Bool) : ∀ (n m lo : Nat), WS sz T lo (n + m) = WS sz T lo n + WS sz T (lo + n) m
  | 0, m, lo => by rw [Nat.zero_add, WS, Int.zero_add, Nat.add_zero]
  | n + 1, m, lo => by
    rw [show n + 1 + m = (n + m) + 1 by omega, WS, WS_add sz T n m (lo + 1), WS, show lo + 1 + n = lo + (n + 1) by omega]
    omega
theorem getD_nonneg {sz : List Int} (h : ∀ s ∈ sz, 0 ≤ s) (t : Nat) : 0 ≤ sz.getD t 0 := by
  rw [List.getD_eq_getElem?_getD]
  cases q : sz[t]? with
  | none => exact Int.le_refl _
  | some v => exact h v (List.mem_of_getElem? q)
theorem WS_nonneg {sz : List Int} (h : ∀ s ∈ sz, 0 ≤ s) (T : Nat → Bool) : ∀ (n lo : Nat), 0 ≤ WS sz T lo n
  | 0, _ => Int.le_refl _
  | n + 1, lo => by
    have := WS_nonneg h T n (lo + 1)
    have := getD_nonneg h lo
    rw [WS]; split <;> omega
theorem WS_mono {sz : List Int} (h : ∀ s ∈ sz, 0 ≤ s) {T T' : Nat → Bool} : ∀ (n lo : Nat), (∀ t, lo ≤ t → t < lo + n → T t = true → T' t = true) → WS sz T lo n ≤ WS sz T' lo n
  | 0, _, _ => Int.le_refl _
  | n + 1, lo, q => by
    have := WS_mono h n (lo + 1) fun t h1 h2 => q t (by omega) (by omega)
    have := getD_nonneg h lo
    have := q lo (Nat.le_refl _) (by omega)
    rw [WS, WS]
    split
    · rename_i c; rw [if_pos (q lo (Nat.le_refl _) (by omega) c)]; omega
    · split <;> omega
theorem WS_full {sz : List Int} {T : Nat → Bool} : ∀ (n lo : Nat), (∀ t, lo ≤ t → t < lo + n → T t = true) → WS sz T lo n = WS sz (fun _ => true) lo n
  | 0, _, _ => rfl
  | n + 1, lo, q => by
    rw [WS, WS, WS_full n (lo + 1) fun t h1 h2 => q t (by omega) (by omega), q lo (Nat.le_refl _) (by omega)]
theorem drop_cons {sz : List Int} {g : Nat} (h : g < sz.length) : sz.drop g = sz.getD g 0 :: sz.drop (g + 1) := by
  rw [List.drop_eq_getElem_cons h, List.getD_eq_getElem?_getD, List.getElem?_eq_getElem h]; rfl
theorem S_WS {sz : List Int} : ∀ (n g : Nat), g + n ≤ sz.length → ((sz.drop g).take n).sum = WS sz (fun _ => true) g n
  | 0, g, _ => by rw [List.take_zero]; rfl
  | n + 1, g, h => by
    rw [drop_cons (by omega), List.take_succ_cons, List.sum_cons, S_WS n (g + 1) (by omega), WS, if_pos rfl]
theorem S_ws {sz : List Int} {g h : Nat} (l : g ≤ h) (l2 : h < sz.length) : S sz g h = WS sz (fun _ => true) g (h + 1 - g) := S_WS _ _ (by omega)
/-- runs that lie in T -/
theorem Tile.sum {sz : List Int} (hs : ∀ s ∈ sz, 0 ≤ s) {T : Nat → Bool} {P : R → Bool} : ∀ {rs : List R} {lo hi : Nat}, Tile lo rs hi → hi ≤ sz.length → (∀ r ∈ rs, P r = true → ∀ t, r.a ≤ t → t ≤ r.e → T t = true) →
    ((rs.filter P).map fun r => S sz r.a r.e).sum ≤ WS sz T lo (hi - lo)
  | [], lo, hi, _, _, _ => WS_nonneg hs _ _ _
  | r :: rs, lo, hi, h, l, q => by
    have l3 := Tile.le h.2.2
    obtain ⟨h1, h2, h3⟩ := h
    have ih := Tile.sum hs (P := P) h3 l fun r hr => q r (List.mem_cons_of_mem _ hr)
    have e : hi - lo = (r.e + 1 - lo) + (hi - (r.e + 1)) := by omega
    rw [e, WS_add, show lo + (r.e + 1 - lo) = r.e + 1 by omega]
    by_cases c : P r = true
    · rw [List.filter_cons_of_pos c, List.map_cons, List.sum_cons, h1, S_ws h2 (by omega), ← WS_full (T := T) _ _ fun t t1 t2 => q r List.mem_cons_self c t (by omega) (by omega)]
      omega
    · rw [List.filter_cons_of_neg c]
      have := WS_nonneg hs T (r.e + 1 - lo) lo
      omega
/-- a step of a wide plan, from the begins w to w': what it pays, by the hours of the runs that it writes -/
def Mv (sz : List Int) (h : Nat) (w w' : List Nat) (c : Int) : Prop :=
  ∃ T : Nat → Bool, T h = true ∧ WS sz T 0 (h + 1) ≤ c ∧ ∀ a e, a ≤ e → e < h → (∀ x ∈ w', ¬ (a < x ∧ x ≤ e + 1)) → ((∃ x ∈ w, a < x ∧ x ≤ e + 1) ∨ e + 1 = h) → ∀ t, a ≤ t → t ≤ e → T t = true
inductive Adv (sz : List Int) (m : Nat) : Nat → List Nat → Int → Prop
  | one {c : Int} (h : sz.getD 0 0 ≤ c) : Adv sz m 1 [0] c
  | step {h : Nat} {w w' : List Nat} {c c' : Int} (p : Adv sz m h w c) (sub : ∀ x ∈ w', x ∈ w ∨ x = h) (h0 : 0 ∈ w') (len : w'.length ≤ m) (mv : Mv sz h w w' c') : Adv sz m (h + 1) w' (c + c')
/-- a burden as it goes -/
inductive Bur (sz : List Int) (m : Nat) : Nat → List R → List Nat → List Int → Prop
  | nil : Bur sz m 0 [] [] []
  | step {h : Nat} {rs : List R} {pl : List Nat} {ps : List Int} (p : Bur sz m h rs pl ps) (r : Int) (g : Nat) (h0 : 0 ≤ r) (hr : 0 < r → rs.length = m) (hb : ∀ q ∈ rs, q.x + r ≤ S sz q.a q.e) (hg : g ∈ rs.map (·.a) ∨ g = h) :
      Bur sz m (h + 1) ((rs.filter fun q => decide (q.a < g)).map (fun q => ⟨q.a, q.e, q.x + r⟩) ++ [⟨g, h, 0⟩]) (pl ++ [g]) (ps ++ [r])
theorem Bur.tile {sz : List Int} {m h : Nat} {rs : List R} {pl : List Nat} {ps : List Int} (b : Bur sz m h rs pl ps) : Tile 0 rs h := by
  induction b with
  | nil => rfl
  | @step h rs pl ps p r g h0 hr hb hg ih =>
    have l : g ≤ h := by
      rcases hg with q | q
      · obtain ⟨x, hx, e⟩ := List.mem_map.mp q
        have := ih.mem x hx; omega
      · omega
    exact Tile.snoc (r := ⟨g, h, 0⟩) ((ih.cut hg).map (fun q => ⟨q.a, q.e, q.x + r⟩) fun _ => ⟨rfl, rfl⟩) l rfl
/-- what the covered runs have left -/
def left (sz : List Int) (h : Nat) (w : List Nat) (rs : List R) : Int := ((rs.filter fun q => decide (q.e + 1 < h) && free w q).map fun q => S sz q.a q.e - q.x).sum
theorem sumf (P : R → Bool) (f : R → Int) : ∀ rs : List R, ((rs.filter P).map f).sum = (rs.map fun q => if P q = true then f q else 0).sum
  | [] => rfl
  | r :: rs => by
    have ih := sumf P f rs
    by_cases c : P r = true
    · rw [List.filter_cons_of_pos c, List.map_cons, List.sum_cons, List.map_cons, List.sum_cons, ih, if_pos c]
    · rw [List.filter_cons_of_neg c, List.map_cons, List.sum_cons, ih, if_neg c]; omega
theorem sum_le {f g : R → Int} : ∀ {rs : List R}, (∀ q ∈ rs, f q ≤ g q) → (rs.map f).sum ≤ (rs.map g).sum
  | [], _ => Int.le_refl _
  | r :: rs, h => by
    have ih := sum_le fun q hq => h q (List.mem_cons_of_mem r hq)
    have := h r List.mem_cons_self
    rw [List.map_cons, List.map_cons, List.sum_cons, List.sum_cons]; omega
theorem sum_plus (f g : R → Int) : ∀ rs : List R, (rs.map fun q => f q + g q).sum = (rs.map f).sum + (rs.map g).sum
  | [] => rfl
  | r :: rs => by
    have ih := sum_plus f g rs
    rw [List.map_cons, List.map_cons, List.map_cons, List.sum_cons, List.sum_cons, List.sum_cons, ih]; omega
theorem sum_ge {f : R → Int} {q : R} : ∀ {rs : List R}, (∀ q ∈ rs, 0 ≤ f q) → q ∈ rs → f q ≤ (rs.map f).sum
  | r :: rs, h, hq => by
    rw [List.map_cons, List.sum_cons]
    have h1 := h r List.mem_cons_self
    rcases List.mem_cons.mp hq with e | hq
    · subst e
      have : 0 ≤ (rs.map f).sum := by
        have := sum_le (f := fun _ => 0) (g := f) fun x hx => h x (List.mem_cons_of_mem _ hx)
        have z : ∀ l : List R, (l.map fun _ => (0 : Int)).sum = 0 := fun l => by
          induction l with
          | nil => rfl
          | cons a l ih => rw [List.map_cons, List.sum_cons, ih]; rfl
        rw [z] at this; exact this
      omega
    · have := sum_ge (fun x hx => h x (List.mem_cons_of_mem _ hx)) hq
      omega
theorem Bur.borne {sz : List Int} (hs : ∀ s ∈ sz, 0 ≤ s) {m h : Nat} {rs : List R} {pl : List Nat} {ps : List Int} (b : Bur sz m h rs pl ps) (hl : h ≤ sz.length) : ∀ q ∈ rs, 0 ≤ q.x ∧ q.x ≤ S sz q.a q.e := by
  induction b with
  | nil => intro q hq; cases hq
  | @step h rs pl ps p r g h0 hr hb hg ih =>
    intro q hq
    rcases List.mem_append.mp hq with hq | hq
    · obtain ⟨x, hx, rfl⟩ := List.mem_map.mp hq
      have hx := (List.mem_filter.mp hx).1
      have := ih (by omega) x hx
      exact ⟨by show 0 ≤ x.x + r; omega, hb x hx⟩
    · rw [List.mem_singleton.mp hq]
      refine ⟨Int.le_refl _, ?_⟩
      have l : g ≤ h := by
        rcases hg with z | z
        · obtain ⟨x, hx, e⟩ := List.mem_map.mp z
          have := p.tile.mem x hx; omega
        · omega
      show 0 ≤ S sz g h
      rw [S_ws l (by omega)]
      exact WS_nonneg hs _ _ _
/-- THE BOUND: the raises and the sizes are no more than any wide plan pays -/
theorem Adv.bound {sz : List Int} (hs : ∀ s ∈ sz, 0 ≤ s) {m : Nat} (hm : 1 ≤ m) {h : Nat} {w : List Nat} {c : Int} (a : Adv sz m h w c) : ∀ {rs : List R} {pl : List Nat} {ps : List Int}, Bur sz m h rs pl ps → h ≤ sz.length →
    ps.sum + left sz h w rs + WS sz (fun _ => true) 0 h ≤ c := by
  induction a with
  | @one c h =>
    intro rs pl ps b hl
    cases b with
    | @step _ rs pl ps p r g h0 hr hb hg =>
      cases p
      have : r = 0 := by
        apply Classical.byContradiction
        intro z
        have := hr (by omega)
        simp at this; omega
      subst this
      have e : left sz 1 [0] (([].filter fun q : R => decide (q.a < g)).map (fun q => ⟨q.a, q.e, q.x + 0⟩) ++ [⟨g, 0, 0⟩]) = 0 := by simp [left]
      rw [e]
      simp [WS]
      exact h
  | @step h w w' c c' p sub h0 len mv ih =>
    intro rs0 pl0 ps0 b hl
    cases b with
    | @step _ rs pl ps pb r g r0 hr hb hg =>
      have ih := ih pb (by omega)
      have tl := pb.tile
      have bo := pb.borne hs (by omega)
      obtain ⟨T, Th, Tc, Tm⟩ := mv
      -- what comes newly into free stretches
      have n1 := Tile.sum hs (T := T) (P := fun q => free w' q && !(decide (q.e + 1 < h) && free w q)) tl (by omega) fun q hq hP t t1 t2 => by
        rw [Bool.and_eq_true] at hP
        obtain ⟨f1, f2⟩ := hP
        have m1 := tl.mem q hq
        refine Tm q.a q.e m1.2.1 m1.2.2 (free_iff.mp f1) ?_ t t1 t2
        by_cases c : q.e + 1 < h
        · left
          apply Classical.byContradiction
          intro no
          have : free w q = true := free_iff.mpr fun x hx z => no ⟨x, hx, z⟩
          simp [c, this] at f2
        · right; omega
      rw [Nat.sub_zero] at n1
      have n2 : WS sz T 0 (h + 1) = WS sz T 0 h + sz.getD h 0 := by
        rw [WS_add sz T h 1 0]
        simp [WS, Th]
      have n3 : WS sz (fun _ => true) 0 (h + 1) = WS sz (fun _ => true) 0 h + sz.getD h 0 := by
        rw [WS_add sz _ h 1 0]
        simp [WS]
      -- step A
      have A : (rs.map fun q => if free w' q = true then S sz q.a q.e - q.x else 0).sum ≤ left sz h w rs + WS sz T 0 h := by
        refine Int.le_trans ?_ (Int.add_le_add_left n1 _)
        unfold left
        rw [sumf, sumf, ← sum_plus]
        refine sum_le fun q hq => ?_
        have := bo q hq
        by_cases c1 : free w' q = true
        · by_cases c2 : (decide (q.e + 1 < h) && free w q) = true
          · rw [if_pos c1, if_pos c2, if_neg (by simp [c1, c2])]; omega
          · rw [if_pos c1, if_neg c2, if_pos (by rw [c1, Bool.true_and, Bool.not_eq_true']; exact Bool.eq_false_iff.mpr c2)]; omega
        · rw [if_neg c1]
          split <;> split <;> omega
      -- step B
      have B : r + (rs.map fun q => if free w' q = true then S sz q.a q.e - (q.x + r) else 0).sum ≤ (rs.map fun q => if free w' q = true then S sz q.a q.e - q.x else 0).sum := by
        have e : (rs.map fun q => if free w' q = true then S sz q.a q.e - q.x else 0).sum = (rs.map fun q => if free w' q = true then S sz q.a q.e - (q.x + r) else 0).sum + (rs.map fun q => if free w' q = true then r else 0).sum := by
          rw [← sum_plus]
          congr 1
          refine List.map_congr_left fun q _ => ?_
          split <;> omega
        rw [e]
        by_cases z : 0 < r
        · obtain ⟨q, hq, f⟩ := tl.one_free (w := w') h0 (by rw [hr z]; exact len)
          have := sum_ge (f := fun q => if free w' q = true then r else 0) (fun q _ => by split <;> omega) hq
          rw [if_pos f] at this
          omega
        · have : r = 0 := by omega
          subst this
          have := sum_le (rs := rs) (f := fun _ => 0) (g := fun q => if free w' q = true then (0 : Int) else 0) fun q _ => by split <;> omega
          have z : ∀ l : List R, (l.map fun _ => (0 : Int)).sum = 0 := fun l => by
            induction l with
            | nil => rfl
            | cons a l ih => rw [List.map_cons, List.sum_cons, ih]; rfl
          rw [z] at this
          omega
      -- step C
      have C : left sz (h + 1) w' ((rs.filter fun q => decide (q.a < g)).map (fun q => ⟨q.a, q.e, q.x + r⟩) ++ [⟨g, h, 0⟩]) ≤ (rs.map fun q => if free w' q = true then S sz q.a q.e - (q.x + r) else 0).sum := by
        unfold left
        rw [List.filter_append, List.map_append, List.sum_append]
        have e1 : ([⟨g, h, 0⟩] : List R).filter (fun q => decide (q.e + 1 < h + 1) && free w' q) = [] := by simp
        rw [e1, List.filter_map, List.map_map, List.filter_filter]
        show ((rs.filter _).map _).sum + 0 ≤ _
        rw [Int.add_zero, sumf]
        refine sum_le fun q hq => ?_
        have := hb q hq
        by_cases c1 : free w' q = true
        · rw [if_pos c1]
          split
          · exact Int.le_refl _
          · omega
        · rw [if_neg c1, if_neg ?_]
          · exact Int.le_refl _
          · intro z
            have z : ((decide (q.e + 1 < h + 1) && free w' ⟨q.a, q.e, q.x + r⟩) && decide (q.a < g)) = true := z
            rw [Bool.and_eq_true, Bool.and_eq_true] at z
            exact c1 z.1.2
      rw [List.sum_append, List.sum_singleton, n3]
      omega
end PB
namespace PB
open PM
theorem WS_zero {sz : List Int} {T : Nat → Bool} : ∀ (n lo : Nat), (∀ t, lo ≤ t → t < lo + n → T t = false) → WS sz T lo n = 0
  | 0, _, _ => rfl
  | n + 1, lo, q => by
    rw [WS, q lo (Nat.le_refl _) (by omega), WS_zero n (lo + 1) fun t h1 h2 => q t (by omega) (by omega)]; rfl
theorem adv_path {sz : List Int} {m : Nat} : ∀ {h : Nat} {st pl : List Nat} {c : Int}, Path sz m 0 h st pl c → 1 ≤ h → h ≤ sz.length → Adv sz m h st c
  | _, _, _, _, .nil, h1, _ => absurd h1 (by decide)
  | _, _, _, _, .step (h := h) (st := st) (pl := pl) (c := c) p a g ha hg, h1, h2 => by
    by_cases q : h = 0
    · subst q
      cases p with
      | nil =>
        have : a = 0 ∧ g = 0 := by
          cases a with
          | zero => simp at hg; exact ⟨rfl, hg.symm⟩
          | succ a => simp at hg
        obtain ⟨rfl, rfl⟩ := this
        refine Adv.one ?_
        rw [S_ws (Nat.le_refl _) (by omega)]
        simp [WS]
    · have ih := adv_path p (by omega) (by omega)
      obtain ⟨_, t, st1, pl1, c1, st2, pl2, c2, _, _, _, _, e0, _⟩ := p.split (by omega)
      have so := p.sorted
      have hg' : g ∈ st ∨ g = h := by
        have := List.mem_of_getElem? hg
        rcases List.mem_append.mp this with z | z
        · exact .inl z
        · exact .inr (List.mem_singleton.mp z)
      have gle : g ≤ h := by
        rcases hg' with z | z
        · exact Nat.le_of_lt (so.2 g z)
        · omega
      refine .step ih (fun x hx => ?_) ?_ ?_ ?_
      · rcases List.mem_append.mp hx with z | z
        · exact .inl (List.mem_of_mem_take z)
        · rw [List.mem_singleton.mp z]; exact hg'
      · subst e0
        cases a with
        | zero => simp at hg; subst hg; simp
        | succ a => simp
      · rw [List.length_append, List.length_take, List.length_singleton]; omega
      · refine ⟨fun t => decide (g ≤ t), by simpa using gle, ?_, fun a' e ae el nw old t t1 t2 => ?_⟩
        · have e : h + 1 = g + (h + 1 - g) := by omega
          rw [e, WS_add, WS_zero g 0 fun t _ t2 => by simp; omega, WS_full _ _ fun t t1 _ => by simpa using (show g ≤ t by omega), Int.zero_add, Nat.zero_add, S_ws gle (by omega)]
          exact Int.le_refl _
        · have gn : ¬ (a' < g ∧ g ≤ e + 1) := nw g (List.mem_append_right _ (by simp))
          have ga : g ≤ a' := by
            rcases old with ⟨x, hx, x1, x2⟩ | z
            · have xn : x ∉ st.take a ++ [g] := fun z => nw x z ⟨x1, x2⟩
              have gx : g < x := by
                rcases hg' with z | z
                · -- x stands behind place a
                  obtain ⟨i, hi, ei⟩ := List.mem_iff_getElem.mp hx
                  have hal : a < st.length := by
                    apply Classical.byContradiction
                    intro c
                    have : (st ++ [h])[a]? = some g := hg
                    rw [List.getElem?_append_right (by omega)] at this
                    have l := (List.getElem?_eq_some_iff.mp this).1
                    simp at l
                    have : a = st.length := by omega
                    apply xn
                    rw [this, List.take_length]
                    exact List.mem_append_left _ hx
                  have ga : st[a] = g := by
                    rw [List.getElem?_append_left hal] at hg
                    exact (List.getElem?_eq_some_iff.mp hg).2
                  have ia : a ≤ i := by
                    apply Classical.byContradiction
                    intro c
                    apply xn
                    refine List.mem_append_left _ (List.mem_iff_getElem.mpr ⟨i, by rw [List.length_take]; omega, ?_⟩)
                    rw [List.getElem_take]; exact ei
                  by_cases c : i = a
                  · subst c
                    exfalso; apply xn
                    rw [← ei, ga]; simp
                  · have := List.pairwise_iff_getElem.mp so.1 a i hal hi (by omega)
                    omega
                · exfalso
                  have hal : a = st.length := by
                    have l := (List.getElem?_eq_some_iff.mp hg).1
                    rw [List.length_append, List.length_singleton] at l
                    apply Classical.byContradiction
                    intro c
                    rw [List.getElem?_append_left (by omega)] at hg
                    have := so.2 g (List.mem_of_getElem? hg)
                    omega
                  apply xn
                  rw [hal, List.take_length]
                  exact List.mem_append_left _ hx
              omega
            · omega
          simp; omega
theorem left_nonneg {sz : List Int} (hs : ∀ s ∈ sz, 0 ≤ s) {m : Nat} {rs : List R} {pl : List Nat} {ps : List Int} (b : Bur sz m sz.length rs pl ps) (st : List Nat) : 0 ≤ left sz sz.length st rs := by
  have bo := b.borne hs (Nat.le_refl _)
  unfold left
  rw [sumf]
  have := sum_le (rs := rs) (f := fun _ => 0) (g := fun q => if (decide (q.e + 1 < sz.length) && free st q) = true then S sz q.a q.e - q.x else 0) fun q hq => by
    have := bo q hq
    split <;> omega
  have z : ∀ l : List R, (l.map fun _ => (0 : Int)).sum = 0 := fun l => by
    induction l with
    | nil => rfl
    | cons a l ih => rw [List.map_cons, List.sum_cons, ih]; rfl
  rw [z] at this
  exact this
theorem WS_all (sz : List Int) : WS sz (fun _ => true) 0 sz.length = sz.sum := by
  rw [← S_WS sz.length 0 (by omega)]; simp
/-- no plan costs less than a burden weighs -/
theorem Bur.plan {sz : List Int} (hs : ∀ s ∈ sz, 0 ≤ s) {m : Nat} (hm : 1 ≤ m) {rs : List R} {pl : List Nat} {ps : List Int} (b : Bur sz m sz.length rs pl ps) (h1 : 1 ≤ sz.length) {v : Int} (l : Least sz m 0 sz.length v) : ps.sum + sz.sum ≤ v := by
  obtain ⟨⟨st, pl', p⟩, _⟩ := l
  have a := (adv_path p h1 (Nat.le_refl _)).bound hs hm b (Nat.le_refl _)
  have n := left_nonneg hs b st
  have e := WS_all sz
  omega
end PB
namespace PB
open PM
/-- the runs of a row of begins, behind hour h -/
def runs : List Nat → Nat → List (Nat × Nat)
  | [], _ => []
  | [b], h => [(b, h)]
  | b :: b' :: r, h => (b, b' - 1) :: runs (b' :: r) h
theorem runs_mem : ∀ {w : List Nat} {h : Nat}, w.Pairwise (· < ·) → (∀ x ∈ w, x ≤ h) → ∀ j ∈ runs w h, j.1 ∈ w ∧ j.1 ≤ j.2 ∧ j.2 ≤ h ∧ ∀ z ∈ w, ¬ (j.1 < z ∧ z ≤ j.2)
  | [], _, _, _, j, hj => by cases hj
  | [b], h, _, l, j, hj => by
    rw [runs, List.mem_singleton] at hj
    subst hj
    refine ⟨by simp, l b (by simp), Nat.le_refl _, fun z hz => ?_⟩
    rw [List.mem_singleton.mp hz]; dsimp only; omega
  | b :: b' :: r, h, so, l, j, hj => by
    rw [List.pairwise_cons] at so
    obtain ⟨s1, s2⟩ := so
    have bb := s1 b' (by simp)
    rw [runs, List.mem_cons] at hj
    rcases hj with rfl | hj
    · refine ⟨by simp, by dsimp only; omega, ?_, fun z hz => ?_⟩
      · have := l b' (by simp); dsimp only; omega
      · dsimp only
        rcases List.mem_cons.mp hz with rfl | hz
        · omega
        · rcases List.mem_cons.mp hz with rfl | hz
          · omega
          · rw [List.pairwise_cons] at s2
            have := s2.1 z hz; omega
    · obtain ⟨h1, h2, h3, h4⟩ := runs_mem s2 (fun x hx => l x (List.mem_cons_of_mem _ hx)) j hj
      refine ⟨List.mem_cons_of_mem _ h1, h2, h3, fun z hz => ?_⟩
      rcases List.mem_cons.mp hz with rfl | hz
      · have := s1 _ h1; omega
      · exact h4 z hz
theorem runs_at : ∀ {w : List Nat} {h b : Nat} (a : Nat), w.Pairwise (· < ·) → (∀ x ∈ w, x ≤ h) → w.head? = some b → b ≤ a → a ≤ h → ∃ j ∈ runs w h, j.1 ≤ a ∧ a ≤ j.2 ∧ (j.2 = h ∨ j.2 + 1 ∈ w)
  | [], _, _, _, _, _, e, _, _ => by cases e
  | [b], h, b0, a, _, l, e, h1, h2 => by
    cases e
    exact ⟨(b, h), by simp [runs], h1, h2, .inl rfl⟩
  | b :: b' :: r, h, b0, a, so, l, e, h1, h2 => by
    cases e
    rw [List.pairwise_cons] at so
    obtain ⟨s1, s2⟩ := so
    have bb := s1 b' (by simp)
    by_cases c : a < b'
    · exact ⟨(b, b' - 1), by simp [runs], h1, by dsimp only; omega, .inr (by rw [show b' - 1 + 1 = b' by omega]; simp)⟩
    · obtain ⟨j, hj, j1, j2, j3⟩ := runs_at (b := b') a s2 (fun x hx => l x (List.mem_cons_of_mem _ hx)) rfl (by omega) h2
      refine ⟨j, by rw [runs]; exact List.mem_cons_of_mem _ hj, j1, j2, ?_⟩
      rcases j3 with z | z
      · exact .inl z
      · exact .inr (List.mem_cons_of_mem _ z)
/-- what a row writes that does not stand -/
def news (ahead : List (Nat × Nat)) (w : List Nat) (h : Nat) : List (Nat × Nat) := (runs w h).filter fun j => !decide (j ∈ ahead)
def cost (sz : List Int) (js : List (Nat × Nat)) : Int := (js.map fun j => S sz j.1 j.2).sum
def payL (sz : List Int) : Nat → List (Nat × Nat) → List (List Nat) → Int
  | _, _, [] => 0
  | h, ahead, w :: ws => cost sz (news ahead w h) + payL sz (h + 1) (runs w h) ws
def lastRuns : Nat → List (Nat × Nat) → List (List Nat) → List (Nat × Nat)
  | _, ahead, [] => ahead
  | h, _, w :: ws => lastRuns (h + 1) (runs w h) ws
theorem lastRuns_snoc (w : List Nat) : ∀ (ws : List (List Nat)) (h : Nat) (ahead : List (Nat × Nat)), lastRuns h ahead (ws ++ [w]) = runs w (h + ws.length)
  | [], h, ahead => rfl
  | v :: ws, h, ahead => by
    rw [List.cons_append, lastRuns, lastRuns_snoc w ws, List.length_cons, show h + 1 + ws.length = h + (ws.length + 1) by omega]
theorem payL_snoc (sz : List Int) (w : List Nat) : ∀ (ws : List (List Nat)) (h : Nat) (ahead : List (Nat × Nat)), payL sz h ahead (ws ++ [w]) = payL sz h ahead ws + cost sz (news (lastRuns h ahead ws) w (h + ws.length))
  | [], h, ahead => by simp [payL, lastRuns]
  | v :: ws, h, ahead => by
    rw [List.cons_append, payL, payL_snoc sz w ws, payL, lastRuns, List.length_cons, show h + 1 + ws.length = h + (ws.length + 1) by omega, Int.add_assoc]
/-- a wide plan, with its last row -/
inductive Wd (m : Nat) : Nat → List (List Nat) → List Nat → Prop
  | one : Wd m 1 [[0]] [0]
  | step {h : Nat} {W : List (List Nat)} {w s : List Nat} (p : Wd m h W w) (sub : s.Sublist (w.tail ++ [h])) (len : s.length + 1 ≤ m) : Wd m (h + 1) (W ++ [0 :: s]) (0 :: s)
theorem Wd.row {m h : Nat} {W : List (List Nat)} {w : List Nat} (p : Wd m h W w) : 1 ≤ h ∧ W.length = h ∧ w.head? = some 0 ∧ w.Pairwise (· < ·) ∧ (∀ x ∈ w, x < h) := by
  induction p with
  | one => simp
  | @step h W w s p sub len ih =>
    obtain ⟨h1, h2, h3, h4, h5⟩ := ih
    have t : ∀ x ∈ w.tail, 0 < x ∧ x < h := by
      cases w with
      | nil => intro x hx; cases hx
      | cons b r =>
        cases h3
        intro x hx
        exact ⟨(List.pairwise_cons.mp h4).1 x hx, h5 x (List.mem_cons_of_mem _ hx)⟩
    have tp : (w.tail ++ [h]).Pairwise (· < ·) := by
      rw [List.pairwise_append]
      refine ⟨h4.sublist (List.tail_sublist w), by simp, fun x hx y hy => ?_⟩
      rw [List.mem_singleton.mp hy]; exact (t x hx).2
    have ts : ∀ x ∈ w.tail ++ [h], 0 < x ∧ x ≤ h := fun x hx => by
      rcases List.mem_append.mp hx with z | z
      · have := t x z; omega
      · rw [List.mem_singleton.mp z]; omega
    refine ⟨by omega, by rw [List.length_append, h2]; rfl, rfl, ?_, fun x hx => ?_⟩
    · rw [List.pairwise_cons]
      exact ⟨fun x hx => (ts x (sub.subset hx)).1, tp.sublist sub⟩
    · rcases List.mem_cons.mp hx with rfl | hx
      · omega
      · have := ts x (sub.subset hx); omega
theorem Wd.last {m h : Nat} {W : List (List Nat)} {w : List Nat} (p : Wd m h W w) : lastRuns 0 [] W = runs w (h - 1) := by
  cases p with
  | one => rfl
  | step p sub len =>
    rw [lastRuns_snoc, p.row.2.1, Nat.zero_add]; rfl
theorem WS_or {sz : List Int} (hs : ∀ s ∈ sz, 0 ≤ s) (T T' : Nat → Bool) : ∀ (n lo : Nat), WS sz (fun t => T t || T' t) lo n ≤ WS sz T lo n + WS sz T' lo n
  | 0, _ => by simp [WS]
  | n + 1, lo => by
    have := WS_or hs T T' n (lo + 1)
    have := getD_nonneg hs lo
    rw [WS, WS, WS]
    cases T lo <;> cases T' lo <;> simp only [Bool.or_false, Bool.or_true, if_true, if_false, Bool.false_eq_true] <;> omega
def inR (j : Nat × Nat) (t : Nat) : Bool := decide (j.1 ≤ t) && decide (t ≤ j.2)
theorem WS_in {sz : List Int} {j : Nat × Nat} {n : Nat} (h1 : j.1 ≤ j.2) (h2 : j.2 < n) (h3 : n ≤ sz.length) : WS sz (inR j) 0 n = S sz j.1 j.2 := by
  have e : n = j.1 + ((j.2 + 1 - j.1) + (n - (j.2 + 1))) := by omega
  rw [e, WS_add, WS_add, WS_zero j.1 0 fun t _ t2 => by simp [inR]; omega, WS_zero (n - (j.2 + 1)) _ fun t t1 _ => by simp [inR]; omega, WS_full _ _ fun t t1 t2 => by simp [inR]; omega, S_ws h1 (by omega)]
  rw [Nat.zero_add]; omega
theorem WS_any {sz : List Int} (hs : ∀ s ∈ sz, 0 ≤ s) {n : Nat} (h3 : n ≤ sz.length) : ∀ js : List (Nat × Nat), (∀ j ∈ js, j.1 ≤ j.2 ∧ j.2 < n) → WS sz (fun t => js.any fun j => inR j t) 0 n ≤ cost sz js
  | [], _ => by
    exact Int.le_of_eq (WS_zero _ _ fun t _ _ => rfl)
  | j :: js, h => by
    have ih := WS_any hs h3 js fun x hx => h x (List.mem_cons_of_mem _ hx)
    obtain ⟨h1, h2⟩ := h j List.mem_cons_self
    have := WS_or hs (inR j) (fun t => js.any fun j => inR j t) n 0
    rw [WS_in h1 h2 h3] at this
    show WS sz (fun t => inR j t || js.any fun j => inR j t) 0 n ≤ ((j :: js).map fun j => S sz j.1 j.2).sum
    rw [List.map_cons, List.sum_cons]
    have ih : WS sz (fun t => js.any fun j => inR j t) 0 n ≤ (js.map fun j => S sz j.1 j.2).sum := ih
    omega
theorem Wd.adv {sz : List Int} (hs : ∀ s ∈ sz, 0 ≤ s) {m h : Nat} {W : List (List Nat)} {w : List Nat} (p : Wd m h W w) (hl : h ≤ sz.length) : Adv sz m h w (payL sz 0 [] W) := by
  induction p with
  | one =>
    refine .one ?_
    simp [payL, news, runs, cost]
    rw [S_ws (Nat.le_refl _) (by omega)]
    simp [WS]
  | @step h W w s p sub len ih =>
    obtain ⟨h1, h2, h3, h4, h5⟩ := p.row
    obtain ⟨_, _, _, r4, r5⟩ := (Wd.step p sub len).row
    rw [payL_snoc, p.last, h2, Nat.zero_add]
    have le' : ∀ x ∈ 0 :: s, x ≤ h := fun x hx => by have := r5 x hx; omega
    have le0 : ∀ x ∈ w, x ≤ h - 1 := fun x hx => by have := h5 x hx; omega
    have rm := runs_mem r4 le'
    have ro := runs_mem h4 le0
    have w0 : 0 ∈ w := by
      cases w with
      | nil => cases h3
      | cons b r => cases h3; simp
    refine .step (ih (by omega)) (fun x hx => ?_) (by simp) (by rw [List.length_cons]; exact len) ?_
    · rcases List.mem_cons.mp hx with rfl | hx
      · exact .inl w0
      · rcases List.mem_append.mp (sub.subset hx) with z | z
        · exact .inl (List.mem_of_mem_tail z)
        · exact .inr (List.mem_singleton.mp z)
    · have nw : ∀ j ∈ runs (0 :: s) h, j ∉ runs w (h - 1) → j ∈ news (runs w (h - 1)) (0 :: s) h := fun j hj n => List.mem_filter.mpr ⟨hj, by simpa using n⟩
      refine ⟨fun t => (news (runs w (h - 1)) (0 :: s) h).any fun j => inR j t, ?_, WS_any hs hl _ fun j hj => ?_, fun a e ae el fr old t t1 t2 => ?_⟩
      · obtain ⟨j, hj, j1, j2, _⟩ := runs_at (b := 0) h r4 le' rfl (Nat.zero_le _) (Nat.le_refl _)
        refine List.any_eq_true.mpr ⟨j, nw j hj fun z => ?_, by simp [inR, j1, j2]⟩
        have := (ro j z).2.2.1; omega
      · have := rm j (List.mem_filter.mp hj).1
        omega
      · obtain ⟨j, hj, j1, j2, j3⟩ := runs_at (b := 0) a r4 le' rfl (Nat.zero_le _) (by omega)
        have je : e + 1 ≤ j.2 := by
          rcases j3 with z | z
          · omega
          · have := fr _ z; omega
        refine List.any_eq_true.mpr ⟨j, nw j hj fun z => ?_, by simp [inR]; omega⟩
        have := ro j z
        rcases old with ⟨x, hx, x1, x2⟩ | q
        · exact this.2.2.2 x hx (by omega)
        · omega
end PB
/-! The keeper by credits costs at most so many times what its burden weighs. -/
namespace PB
open PM
def pot (sz : List Int) : Nat → List R → Int
  | _, [] => 0
  | k, q :: rs => k * S sz q.a q.e + q.x + pot sz (k + 1) rs
def nx (rs : List R) (g h : Nat) (r : Int) : List R := (rs.filter fun q => decide (q.a < g)).map (fun q => ⟨q.a, q.e, q.x + r⟩) ++ [⟨g, h, 0⟩]
theorem pot_ge {sz : List Int} (hs : ∀ s ∈ sz, 0 ≤ s) : ∀ (rs : List R) (k : Nat) (lo hi : Nat), Tile lo rs hi → hi ≤ sz.length → (∀ q ∈ rs, 0 ≤ q.x) → k * WS sz (fun _ => true) lo (hi - lo) ≤ pot sz k rs
  | [], k, lo, hi, t, _, _ => by
    have : lo = hi := t
    subst this
    rw [Nat.sub_self]; simp [WS, pot]
  | q :: rs, k, lo, hi, t, l, hx => by
    have l3 := Tile.le t.2.2
    obtain ⟨t1, t2, t3⟩ := t
    have ih := pot_ge hs rs (k + 1) _ hi t3 l fun x h => hx x (List.mem_cons_of_mem _ h)
    have := hx q List.mem_cons_self
    rw [pot, show hi - lo = (q.e + 1 - lo) + (hi - (q.e + 1)) by omega, WS_add, show lo + (q.e + 1 - lo) = q.e + 1 by omega, t1, S_ws t2 (by omega), Int.mul_add]
    have n := WS_nonneg hs (fun _ => true) (hi - (q.e + 1)) (q.e + 1)
    push_cast at ih
    rw [Int.add_mul] at ih
    omega
/-- the step: join from a full run on -/
theorem pot_join {sz : List Int} (hs : ∀ s ∈ sz, 0 ≤ s) {g h : Nat} {r : Int} (r0 : 0 ≤ r) (hl : h < sz.length) : ∀ (rs : List R) (k lo : Nat), Tile lo rs h → (∀ q ∈ rs, 0 ≤ q.x) → (∃ q ∈ rs, q.a = g ∧ q.x + r = S sz q.a q.e) →
    pot sz k (nx rs g h r) + S sz g h ≤ pot sz k rs + rs.length * r + (k + rs.length) * sz.getD h 0
  | [], k, lo, t, hx, ⟨q, hq, _⟩ => by cases hq
  | q :: rs, k, lo, t, hx, hf => by
    have s0 := getD_nonneg hs h
    have tt := t
    obtain ⟨t1, t2, t3⟩ := t
    have l3 := Tile.le t3
    have q0 := hx q List.mem_cons_self
    by_cases c : q.a < g
    · have hf' : ∃ q ∈ rs, q.a = g ∧ q.x + r = S sz q.a q.e := by
        obtain ⟨p, hp, e⟩ := hf
        rcases List.mem_cons.mp hp with rfl | hp
        · omega
        · exact ⟨p, hp, e⟩
      have ih := pot_join hs r0 hl rs (k + 1) _ t3 (fun x h => hx x (List.mem_cons_of_mem _ h)) hf'
      have e : nx (q :: rs) g h r = ⟨q.a, q.e, q.x + r⟩ :: nx rs g h r := by
        unfold nx
        rw [List.filter_cons_of_pos (by simpa using c), List.map_cons, List.cons_append]
      rw [e, pot, pot, List.length_cons]
      dsimp only
      push_cast at ih ⊢
      rw [show (k : Int) + 1 + rs.length = k + (rs.length + 1) by omega] at ih
      rw [Int.add_mul (rs.length : Int) 1 r]
      omega
    · have ga : q.a = g ∧ q.x + r = S sz q.a q.e := by
        obtain ⟨p, hp, e, f⟩ := hf
        rcases List.mem_cons.mp hp with rfl | hp
        · exact ⟨e, f⟩
        · have := (t3.mem p hp).1; omega
      have e : nx (q :: rs) g h r = [⟨g, h, 0⟩] := by
        unfold nx
        have : (q :: rs).filter (fun q => decide (q.a < g)) = [] := by
          rw [List.filter_eq_nil_iff]
          intro x hx
          rcases List.mem_cons.mp hx with rfl | hx
          · simpa using c
          · have := (t3.mem x hx).1; simp; omega
        rw [this]; rfl
      have pg := pot_ge hs rs (k + 1) _ h t3 (by omega) fun x h => hx x (List.mem_cons_of_mem _ h)
      rw [e, pot, pot, pot, List.length_cons]
      dsimp only
      have sg : S sz g h = S sz q.a q.e + (WS sz (fun _ => true) (q.e + 1) (h - (q.e + 1)) + sz.getD h 0) := by
        rw [← ga.1, S_ws (show q.a ≤ h by omega) hl, S_ws (show q.a ≤ q.e by omega) (by omega), show h + 1 - q.a = (q.e + 1 - q.a) + ((h - (q.e + 1)) + 1) by omega, WS_add, WS_add, show q.a + (q.e + 1 - q.a) = q.e + 1 by omega, show q.e + 1 + (h - (q.e + 1)) = h by omega]
        simp [WS]
      rw [sg]
      push_cast at pg ⊢
      have e1 : ((k : Int) + 1) * WS sz (fun _ => true) (q.e + 1) (h - (q.e + 1)) = k * WS sz (fun _ => true) (q.e + 1) (h - (q.e + 1)) + WS sz (fun _ => true) (q.e + 1) (h - (q.e + 1)) := by rw [Int.add_mul]; omega
      have e2 : ((k : Int) + (rs.length + 1)) * sz.getD h 0 = k * sz.getD h 0 + rs.length * sz.getD h 0 + sz.getD h 0 := by rw [Int.add_mul, Int.add_mul]; omega
      have e3 : ((rs.length : Int) + 1) * r = rs.length * r + r := by rw [Int.add_mul]; omega
      have n1 : 0 ≤ (rs.length : Int) * sz.getD h 0 := Int.mul_nonneg (by omega) s0
      have n2 : 0 ≤ (rs.length : Int) * r := Int.mul_nonneg (by omega) r0
      rw [Int.mul_add, Int.mul_add, e2, e3]
      rw [e1] at pg
      have := ga.2
      omega
theorem pot_alone {sz : List Int} {h : Nat} (hl : h < sz.length) : ∀ (rs : List R) (k lo : Nat), Tile lo rs h → pot sz k (nx rs h h 0) = pot sz k rs + (k + rs.length) * sz.getD h 0
  | [], k, lo, t => by
    simp [nx, pot]
    rw [S_ws (Nat.le_refl _) hl]
    simp [WS]
  | q :: rs, k, lo, t => by
    obtain ⟨t1, t2, t3⟩ := t
    have l3 := Tile.le t3
    have ih := pot_alone hl rs (k + 1) _ t3
    have e : nx (q :: rs) h h 0 = ⟨q.a, q.e, q.x + 0⟩ :: nx rs h h 0 := by
      unfold nx
      rw [List.filter_cons_of_pos (by simp; omega), List.map_cons, List.cons_append]
    rw [e, pot, pot, ih, List.length_cons]
    dsimp only
    push_cast
    rw [show (k : Int) + 1 + rs.length = k + (rs.length + 1) by omega]
    omega
/-- what holds of the keeper by credits: costs so far, with what is laid by, are no more than so many times raises and sizes -/
def Pays (sz : List Int) (m h : Nat) (rs : List R) (ps : List Int) (c : Int) : Prop := c + pot sz 0 rs ≤ m * (ps.sum + WS sz (fun _ => true) 0 h)
theorem Pays.nil {sz : List Int} {m : Nat} : Pays sz m 0 [] [] 0 := by simp [Pays, pot, WS]
theorem WS_next (sz : List Int) (h : Nat) : WS sz (fun _ => true) 0 (h + 1) = WS sz (fun _ => true) 0 h + sz.getD h 0 := by
  rw [WS_add]; simp [WS]
theorem Pays.alone {sz : List Int} (hs : ∀ s ∈ sz, 0 ≤ s) {m h : Nat} {rs : List R} {ps : List Int} {c : Int} (p : Pays sz m h rs ps c) (t : Tile 0 rs h) (hl : h < sz.length) (lt : rs.length < m) : Pays sz m (h + 1) (nx rs h h 0) (ps ++ [0]) (c + S sz h h) := by
  have s0 := getD_nonneg hs h
  unfold Pays at p ⊢
  rw [pot_alone hl rs 0 0 t, WS_next, List.sum_append, List.sum_singleton, S_ws (Nat.le_refl _) hl]
  have e : WS sz (fun _ => true) h (h + 1 - h) = sz.getD h 0 := by rw [show h + 1 - h = 1 by omega]; simp [WS]
  rw [e, Int.add_zero, show ps.sum + (WS sz (fun _ => true) 0 h + sz.getD h 0) = (ps.sum + WS sz (fun _ => true) 0 h) + sz.getD h 0 by omega, Int.mul_add]
  have : ((rs.length : Int) + 1) * sz.getD h 0 ≤ m * sz.getD h 0 := Int.mul_le_mul_of_nonneg_right (by omega) s0
  rw [Int.add_mul, Int.one_mul] at this
  rw [show ((0 : Nat) : Int) = 0 from rfl, Int.zero_add]
  omega
theorem Pays.join {sz : List Int} (hs : ∀ s ∈ sz, 0 ≤ s) {m h g : Nat} {rs : List R} {ps : List Int} {c r : Int} (p : Pays sz m h rs ps c) (t : Tile 0 rs h) (hl : h < sz.length) (lt : rs.length = m) (r0 : 0 ≤ r) (hx : ∀ q ∈ rs, 0 ≤ q.x) (hf : ∃ q ∈ rs, q.a = g ∧ q.x + r = S sz q.a q.e) : Pays sz m (h + 1) (nx rs g h r) (ps ++ [r]) (c + S sz g h) := by
  have s0 := getD_nonneg hs h
  have j := pot_join hs r0 hl rs 0 0 t hx hf
  unfold Pays at p ⊢
  rw [WS_next, List.sum_append, List.sum_singleton, show ps.sum + r + (WS sz (fun _ => true) 0 h + sz.getD h 0) = (ps.sum + WS sz (fun _ => true) 0 h) + r + sz.getD h 0 by omega, Int.mul_add, Int.mul_add]
  rw [lt, show ((0 : Nat) : Int) = 0 from rfl, Int.zero_add] at j
  omega
theorem pot_nonneg {sz : List Int} (hs : ∀ s ∈ sz, 0 ≤ s) {rs : List R} {h : Nat} (t : Tile 0 rs h) (hl : h ≤ sz.length) (hx : ∀ q ∈ rs, 0 ≤ q.x) : 0 ≤ pot sz 0 rs := by
  have := pot_ge hs rs 0 0 h t hl hx
  simpa using this
theorem Pays.bound {sz : List Int} (hs : ∀ s ∈ sz, 0 ≤ s) {m : Nat} {rs : List R} {ps : List Int} {c : Int} (p : Pays sz m sz.length rs ps c) (t : Tile 0 rs sz.length) (hx : ∀ q ∈ rs, 0 ≤ q.x) : c ≤ m * (ps.sum + sz.sum) := by
  have := pot_nonneg hs t (Nat.le_refl _) hx
  unfold Pays at p
  rw [WS_all] at p
  omega
end PB
/-! what a burden is, in plain words -/
namespace PB
open PM
/-- a loop that may end early with r, the memory as it is -/
theorem _root_.J.forL_chk {g : J.CG} {s : J.CS} {α : Type} {M : J.Mem} (el : α → J.D) (r : J.D) (Bad : Prop) (P : Nat → J.Env → Prop) : ∀ (xs : List α) (i0 : Nat)
    (h : ∀ (i : Nat) (x : α) E, xs[i]? = some x → P (i0 + i) E → ∃ E1 E2, g (el x) E = some E1 ∧ ((s E1 M = .ok (.nx, E2) M ∧ P (i0 + i + 1) E2) ∨ (s E1 M = .ok (.rt r, E2) M ∧ Bad))) (E : J.Env), P i0 E →
    (∃ E', J.forL g s (xs.map el) E M = .ok (.nx, E') M ∧ P (i0 + xs.length) E') ∨ (∃ E', J.forL g s (xs.map el) E M = .ok (.rt r, E') M ∧ Bad)
  | [], i0, h, E, p => .inl ⟨E, rfl, by simpa using p⟩
  | x :: xs, i0, h, E, p => by
    obtain ⟨E1, E2, h1, h2⟩ := h 0 x E (by simp) (by simpa using p)
    rw [List.map_cons, J.forL, h1]
    dsimp only
    rcases h2 with ⟨h2, p2⟩ | ⟨h2, b⟩
    · rw [h2]
      have := J.forL_chk el r Bad P xs (i0 + 1) (fun i y E hy hp => by
        have := h (i + 1) y E (by simpa using hy) (by rw [show i0 + (i + 1) = i0 + 1 + i by omega]; exact hp)
        rw [show i0 + (i + 1) + 1 = i0 + 1 + i + 1 by omega] at this
        exact this) E2 (by simpa using p2)
      rw [List.length_cons, show i0 + (xs.length + 1) = i0 + 1 + xs.length by omega]
      exact this
    · rw [h2]
      exact .inr ⟨E2, rfl, b⟩
theorem planOk_iff : ∀ {h : Nat} {b pl : List Nat}, PlanOk h b pl ↔ ∀ i g, pl[i]? = some g → g ≤ h + i ∧ (g = h + i ∨ g ∈ after b (pl.take i))
  | h, b, [] => by simp [PlanOk]
  | h, b, g :: r => by
    rw [PlanOk, planOk_iff]
    constructor
    · rintro ⟨h1, h2, h3⟩ i x hx
      cases i with
      | zero => simp at hx; subst hx; simpa [after] using ⟨h1, h2⟩
      | succ i =>
        have := h3 i x (by simpa using hx)
        refine ⟨by omega, ?_⟩
        rcases this.2 with z | z
        · left; omega
        · right; simpa [after] using z
    · intro q
      have q0 := q 0 g rfl
      refine ⟨by simpa using q0.1, by simpa [after] using q0.2, fun i x hx => ?_⟩
      have := q (i + 1) x (by simpa using hx)
      refine ⟨by omega, ?_⟩
      rcases this.2 with z | z
      · left; omega
      · right; simpa [after] using z
theorem after_len : ∀ (pl b : List Nat), (after b pl).length ≤ b.length + pl.length
  | [], b => by simp [after]
  | g :: r, b => by
    have := after_len r (b.filter (· < g) ++ [g])
    have l := List.length_filter_le (· < g) b
    rw [List.length_append, List.length_singleton] at this
    show (after (b.filter (· < g) ++ [g]) r).length ≤ _
    rw [List.length_cons]; omega
/-- how many runs stand behind the hour ahead of i -/
def stN (pl : List Nat) (i : Nat) : Nat := (after [] (pl.take i)).length
def psum (ps : List Int) (t i : Nat) : Int := ((ps.drop (t + 1)).take (i - (t + 1))).sum
/-- the run that is written at t stands behind the hour ahead of i -/
def Stand (pl : List Nat) (i t : Nat) : Prop := t < i ∧ ∀ u, t < u → u < i → pl.getD t 0 < pl.getD u 0
def Bo (sz : List Int) (pl : List Nat) (ps : List Int) (n : Nat) : Prop := ∀ i t, i < n → Stand pl i t → psum ps t (i + 1) ≤ S sz (pl.getD t 0) t
structure Spec (sz : List Int) (m : Nat) (pl : List Nat) (ps : List Int) : Prop where
  len : pl.length = sz.length
  plan : PlanOk 0 [] pl
  wide : ∀ i, i < sz.length → stN pl (i + 1) ≤ m
  plen : ps.length = sz.length
  rise : ∀ i r, ps[i]? = some r → 0 ≤ r ∧ (0 < r → stN pl i = m)
  bo : Bo sz pl ps sz.length
theorem psum_next {ps : List Int} {t i : Nat} {r : Int} (h : t < i) (hr : ps[i]? = some r) : psum ps t (i + 1) = psum ps t i + r := by
  unfold psum
  rw [show i + 1 - (t + 1) = (i - (t + 1)) + 1 by omega, List.take_add_one, List.sum_append]
  have : (ps.drop (t + 1))[i - (t + 1)]? = some r := by rw [List.getElem?_drop, show t + 1 + (i - (t + 1)) = i by omega]; exact hr
  rw [this]; simp
theorem psum_self (ps : List Int) (t : Nat) : psum ps t (t + 1) = 0 := by simp [psum]
theorem psum_mono {ps : List Int} (h0 : ∀ r ∈ ps, 0 ≤ r) {t i j : Nat} (h : i ≤ j) : psum ps t i ≤ psum ps t j := by
  unfold psum
  have e : j - (t + 1) = (i - (t + 1)) + ((j - (t + 1)) - (i - (t + 1))) := by omega
  rw [e, List.take_add, List.sum_append]
  have : ∀ l : List Int, (∀ r ∈ l, 0 ≤ r) → 0 ≤ l.sum := fun l => by
    induction l with
    | nil => intro _; exact Int.le_refl _
    | cons x l ih =>
      intro h
      have := ih fun r hr => h r (List.mem_cons_of_mem _ hr)
      have := h x List.mem_cons_self
      rw [List.sum_cons]; omega
  have := this (((ps.drop (t + 1)).drop (i - (t + 1))).take ((j - (t + 1)) - (i - (t + 1)))) fun r hr => h0 r (List.mem_of_mem_drop (List.mem_of_mem_drop (List.mem_of_mem_take hr)))
  omega
theorem psum_end {ps : List Int} {t n : Nat} (h : ps.length ≤ n) : psum ps t (n + 1) = psum ps t n := by
  unfold psum
  rcases Nat.lt_or_ge n (t + 1) with q | q
  · rw [show n - (t + 1) = 0 by omega]
    rw [List.drop_of_length_le (by omega)]; simp
  · rw [List.take_of_length_le (by rw [List.length_drop]; omega), List.take_of_length_le (by rw [List.length_drop]; omega)]
/-- the first hour at which the run that is written at t is joined, or the end -/
structure Joined (pl : List Nat) (t J : Nat) : Prop where
  gt : t < J
  le : J ≤ pl.length
  be : ∀ u, t < u → u < J → pl.getD t 0 < pl.getD u 0
  at_ : J = pl.length ∨ pl.getD J 0 ≤ pl.getD t 0
theorem joined_head {pl : List Nat} {t : Nat} : ∀ (k a : Nat), t < a → a + k = pl.length → (∀ u, t < u → u < a → pl.getD t 0 < pl.getD u 0) →
    ∃ J, ((((List.range' a k).filter fun u => decide (pl.getD u 0 ≤ pl.getD t 0)) ++ [pl.length]).head? = some J) ∧ Joined pl t J
  | 0, a, h, e, b => ⟨pl.length, by simp, by omega, by omega, fun u h1 h2 => b u h1 (by omega), .inl rfl⟩
  | k + 1, a, h, e, b => by
    rw [List.range'_succ]
    by_cases c : pl.getD a 0 ≤ pl.getD t 0
    · rw [List.filter_cons_of_pos (by simpa using c)]
      exact ⟨a, rfl, h, by omega, b, .inr c⟩
    · rw [List.filter_cons_of_neg (by simpa using c)]
      refine joined_head k (a + 1) (by omega) (by omega) fun u h1 h2 => ?_
      by_cases q : u = a
      · subst q; omega
      · exact b u h1 (by omega)
/-- the two ways to look at what is borne -/
theorem bo_iff {sz : List Int} {pl : List Nat} {ps : List Int} (h0 : ∀ r ∈ ps, 0 ≤ r) (hs : ∀ s ∈ sz, 0 ≤ s) (l1 : pl.length = sz.length) (l2 : ps.length = sz.length) (hp : ∀ t, t < sz.length → pl.getD t 0 ≤ t) :
    Bo sz pl ps sz.length ↔ ∀ t J, t < sz.length → Joined pl t J → psum ps t (J + 1) ≤ S sz (pl.getD t 0) t := by
  constructor
  · intro b t J ht j
    by_cases q : J = pl.length
    · subst q
      rw [psum_end (by omega)]
      by_cases q2 : t + 1 = sz.length
      · rw [l1, ← q2, psum_self]
        rw [S_ws (hp t ht) ht]
        exact WS_nonneg hs _ _ _
      · have := b (sz.length - 1) t (by omega) ⟨by omega, fun u h1 h2 => j.be u h1 (by omega)⟩
        rw [show sz.length - 1 + 1 = pl.length by omega] at this
        exact this
    · exact b J t (by have := j.le; omega) ⟨j.gt, j.be⟩
  · intro b i t hi st
    obtain ⟨J, _, j⟩ := joined_head (pl := pl) (t := t) (pl.length - (t + 1)) (t + 1) (by omega) (by have := st.1; omega) fun u h1 h2 => by omega
    have := b t J (by have := st.1; omega) j
    have : i ≤ J := by
      apply Classical.byContradiction
      intro c
      rcases j.at_ with z | z
      · omega
      · have := st.2 J j.gt (by omega); omega
    have := psum_mono h0 (t := t) (show i + 1 ≤ J + 1 by omega)
    omega
/-- runs and what they bear, by the hours at which they are written -/
structure Stds (pl : List Nat) (ps : List Int) (i : Nat) (rs : List R) : Prop where
  tile : Tile 0 rs i
  begs : rs.map (·.a) = after [] (pl.take i)
  one : ∀ q ∈ rs, Stand pl i q.e ∧ q.a = pl.getD q.e 0 ∧ q.x = psum ps q.e i
  all : ∀ t, Stand pl i t → ∃ q ∈ rs, q.e = t
theorem Stds.nil {pl : List Nat} {ps : List Int} : Stds pl ps 0 [] := ⟨rfl, by simp [after], fun q hq => (nomatch hq), fun t h => absurd h.1 (by omega)⟩
theorem Stds.next {pl : List Nat} {ps : List Int} {i g : Nat} {r : Int} {rs : List R} (x : Stds pl ps i rs) (hg : pl[i]? = some g) (hr : ps[i]? = some r) (ok : g = i ∨ g ∈ after [] (pl.take i)) (gl : g ≤ i) :
    Stds pl ps (i + 1) ((rs.filter fun q => decide (q.a < g)).map (fun q => ⟨q.a, q.e, q.x + r⟩) ++ [⟨g, i, 0⟩]) := by
  have gd : pl.getD i 0 = g := by rw [List.getD_eq_getElem?_getD, hg]; rfl
  have hgs : g ∈ rs.map (·.a) ∨ g = i := by rw [x.begs]; exact ok.symm
  refine ⟨Tile.snoc (r := ⟨g, i, 0⟩) ((x.tile.cut hgs).map (fun q => ⟨q.a, q.e, q.x + r⟩) fun _ => ⟨rfl, rfl⟩) gl rfl, ?_, fun q hq => ?_, fun t st => ?_⟩
  · rw [List.take_add_one, hg]
    have : after [] (pl.take i ++ (some g).toList) = (after [] (pl.take i)).filter (· < g) ++ [g] := by simp [after]
    rw [this, ← x.begs, List.map_append, List.map_map, List.filter_map]; rfl
  · rcases List.mem_append.mp hq with hq | hq
    · obtain ⟨p, hp, rfl⟩ := List.mem_map.mp hq
      obtain ⟨hp, hl⟩ := List.mem_filter.mp hp
      have hl : p.a < g := by simpa using hl
      obtain ⟨o1, o2, o3⟩ := x.one p hp
      refine ⟨⟨by have := o1.1; dsimp only; omega, fun u h1 h2 => ?_⟩, o2, ?_⟩
      · dsimp only at h1 ⊢
        by_cases q : u = i
        · subst q; rw [gd, ← o2]; exact hl
        · exact o1.2 u h1 (by omega)
      · dsimp only
        rw [psum_next o1.1 hr, o3]
    · rw [List.mem_singleton.mp hq]
      exact ⟨⟨by dsimp only; omega, fun u h1 h2 => by dsimp only at h1; omega⟩, by dsimp only; rw [gd], (psum_self _ _).symm⟩
  · by_cases q : t = i
    · subst q; exact ⟨⟨g, t, 0⟩, by simp, rfl⟩
    · have t1 := st.1
      obtain ⟨p, hp, e⟩ := x.all t ⟨by omega, fun u h1 h2 => st.2 u h1 (by omega)⟩
      obtain ⟨o1, o2, o3⟩ := x.one p hp
      refine ⟨⟨p.a, p.e, p.x + r⟩, List.mem_append_left _ (List.mem_map.mpr ⟨p, List.mem_filter.mpr ⟨hp, ?_⟩, rfl⟩), e⟩
      have := st.2 i (by omega) (by omega)
      rw [gd, ← e, ← o2] at this
      simpa using this
end PB
namespace K75
open PySem J

def ct : List (Str × List Str) := [("NoBurden", [])]

def F__law_hand : Fn := body 3 1 (sSeq (sAsg (gN 1) (cComp [2] (iSeq (cSl (cV 0) oNone (oSome (cC (.int 63))))) (gN 2) tYes (c1 gAbs (c1 gInt (cV 2))))) (sRet (cNew (cLst (aCons (cV 1) (aCons (cC (.int 0)) (aCons (cC (.int 0)) (aCons (c2 gAdd (cC (.int 1)) (c1 gLen (cV 1))) (aCons (cC (.int 0)) aNil)))))))))

def F__law_draw : Fn := body 5 2 (sSeq (sIf (tAnd (tV (c2 gEq (c2 gIx (cV 0) (cC (.int 2))) (cC (.int 0)))) (tV (c2 gLt (c2 gIx (cV 0) (cC (.int 1))) (c1 gLen (c2 gIx (cV 0) (cC (.int 0))))))) (sSeq (sAsg (gN 3) (c2 gIx (c2 gIx (cV 0) (cC (.int 0))) (c2 gIx (cV 0) (cC (.int 1))))) (sSeq (sSetL (rLoc (cV 0)) (cC (.int 1)) (c2 gAdd (c2 gIx (cV 0) (cC (.int 1))) (cC (.int 1)))) (sSeq (sSetL (rLoc (cV 0)) (cC (.int 3)) (c2 gMod (c1 gInt (c2 gAdd (c2 gAdd (c2 gMul (c2 gIx (cV 0) (cC (.int 3))) (cC (.int 69621))) (cV 3)) (cC (.int 11)))) (cC (.int 2147483629)))) (sIf (tV (c2 gGe (cV 3) (c2 gPow (cC (.int 10)) (cC (.int 18))))) (sSetL (rLoc (cV 0)) (cC (.int 2)) (cV 3)) sNil)))) sNil) (sSeq (sIf (tV (c2 gGt (c2 gIx (cV 0) (cC (.int 2))) (cC (.int 0)))) (sSeq (sAsg (gN 4) (c2 gMod (c1 gInt (c2 gIx (cV 0) (cC (.int 2)))) (cV 1))) (sSeq (sSetL (rLoc (cV 0)) (cC (.int 2)) (c2 gDiv (c2 gIx (cV 0) (cC (.int 2))) (cV 1))) (sRet (cV 4)))) sNil) (sSeq (sSetL (rLoc (cV 0)) (cC (.int 4)) (c2 gAdd (c2 gIx (cV 0) (cC (.int 4))) (cC (.int 1)))) (sSeq (sAsg (gN 2) (c2 gMod (c1 gInt (c2 gMul (c1 gInt (c2 gAdd (c2 gIx (cV 0) (cC (.int 3))) (c2 gMul (cC (.int 7919)) (c2 gIx (cV 0) (cC (.int 4)))))) (cC (.int 48271)))) (cC (.int 2147483647)))) (sSeq (sAsg (gN 2) (c2 gMod (c1 gInt (c2 gMul (cV 2) (c2 gAdd (c2 gDiv (cV 2) (cC (.int 1009))) (cC (.int 69621))))) (cC (.int 2147483647)))) (sSeq (sAsg (gN 2) (c2 gMod (c1 gInt (c2 gMul (cV 2) (c2 gAdd (c2 gDiv (cV 2) (cC (.int 2003))) (cC (.int 40692))))) (cC (.int 2147483399)))) (sRet (c2 gMod (c1 gInt (c2 gDiv (cV 2) (cC (.int 16)))) (cV 1)))))))))

def F__law_sizes : Fn := body 4 3 (sRet (c1 gTuple (cComp [3] (iRng (cV 1)) (gN 3) tYes (c2 gAdd (cC (.int 1)) (cCall0 (ifN 2 F__law_draw) (aCons (cV 0) (aCons (cV 2) aNil)))))))

def F_is_integer : Fn := body 1 1 (sRet (cAnd (c1 (gIsI "int") (cV 0)) (cNot (c1 (gIsI "bool") (cV 0)))))

def F_is_within : Fn := body 3 3 (sRet (cAnd (cCall0 (ifN 1 F_is_integer) (aCons (cV 0) aNil)) (cCh gLe gLe (cV 1) (cV 0) (cV 2))))

def F_check_sizes : Fn := body 2 1 (sSeq (sIf (tOr (tNot (tV (c1 (gIsI "tuple") (cV 0)))) (tNot (tV (cCh gLe gLe (cC (.int 1)) (c1 gLen (cV 0)) (cC (.int 40)))))) sNever sNil) (sIf (tNot (tV (c1 gAll (cComp [1] (iSeq (cV 0)) (gN 1) tYes (cCall0 (ifN 3 F_is_within) (aCons (cV 1) (aCons (cC (.int 1)) (aCons (cC (.int 1000000)) aNil)))))))) sNever sNil))

def F_check_number : Fn := body 3 3 (sIf (tNot (tV (cCall0 (ifN 3 F_is_within) (aCons (cV 0) (aCons (cV 1) (aCons (cV 2) aNil)))))) sNever sNil)

def F_check_most : Fn := body 1 1 (sExpr (cCall0 (ifN 3 F_check_number) (aCons (cV 0) (aCons (cC (.int 1)) (aCons (cC (.int 30)) aNil)))))

def F_check_sizes_and_most : Fn := body 2 2 (sSeq (sExpr (cCall0 (ifN 1 F_check_sizes) (aCons (cV 0) aNil))) (sExpr (cCall0 (ifN 1 F_check_most) (aCons (cV 1) aNil))))

def F_raised : Fn := body 5 1 (sSeq (sAsg (gN 1) (c1 gMin (cComp [2, 3, 4] (iSeq (cV 0)) (gT [(gN 2), (gN 3), (gN 4)]) tYes (c2 gSub (cV 3) (cV 4))))) (sRet (cTup (aCons (cComp [2, 3, 4] (iSeq (cV 0)) (gT [(gN 2), (gN 3), (gN 4)]) tYes (cTup (aCons (cV 2) (aCons (cV 3) (aCons (c2 gAdd (cV 4) (cV 1)) aNil))))) (aCons (cV 1) aNil)))))

def F_led_by_credits : Fn := body 14 2 (sSeq (sOwn 2 (cLst aNil)) (sSeq (sOwn 3 (cLst aNil)) (sSeq (sAsg (gN 4) (cLst aNil)) (sSeq (sFor (iEnum (cV 0)) (gT [(gN 5), (gN 6)]) (sSeq (sAsg (gN 7) (cV 5)) (sSeq (sAsg (gN 8) (cC (.int 0))) (sSeq (sIf (tV (c2 gEq (c1 gLen (cV 4)) (cV 1))) (sSeq (sAsg (gT [(gN 4), (gN 8)]) (cCall0 (ifN 1 F_raised) (aCons (cV 4) aNil))) (sAsg (gN 7) (c1 gMin (cComp [11, 12, 13] (iSeq (cV 4)) (gT [(gN 11), (gN 12), (gN 13)]) (tV (c2 gEq (cV 12) (cV 13))) (cV 11))))) sNil) (sSeq (sAsg (gN 9) (c2 gAdd (c1 gSum (cComp [11, 12, 13] (iSeq (cV 4)) (gT [(gN 11), (gN 12), (gN 13)]) (tV (c2 gGe (cV 11) (cV 7))) (cV 12))) (cV 6))) (sSeq (sAsg (gN 4) (c2 gAdd (cComp [10] (iSeq (cV 4)) (gN 10) (tV (c2 gLt (c2 gIx (cV 10) (cC (.int 0))) (cV 7))) (cV 10)) (cLst (aCons (cTup (aCons (cV 7) (aCons (cV 9) (aCons (cC (.int 0)) aNil)))) aNil)))) (sSeq (sApp (rOwn 2) (cV 7)) (sApp (rOwn 3) (cV 8))))))))) (sRet (cTup (aCons (c1 gTuple (oV 2)) (aCons (c1 gTuple (oV 3)) aNil))))))))

def F_raises : Fn := body 2 2 (sSeq (sExpr (cCall0 (ifN 2 F_check_sizes_and_most) (aCons (cV 0) (aCons (cV 1) aNil)))) (sRet (c2 gIx (cCall0 (ifN 2 F_led_by_credits) (aCons (cV 0) (aCons (cV 1) aNil))) (cC (.int 1)))))

def F_by_credits : Fn := body 2 2 (sSeq (sExpr (cCall0 (ifN 2 F_check_sizes_and_most) (aCons (cV 0) (aCons (cV 1) aNil)))) (sRet (c2 gIx (cCall0 (ifN 2 F_led_by_credits) (aCons (cV 0) (aCons (cV 1) aNil))) (cC (.int 0)))))

def F__law_plan : Fn := body 8 3 (sSeq (sAsg (gN 3) (cTup aNil)) (sSeq (sAsg (gN 4) (cTup aNil)) (sSeq (sFor (iRng (cV 1)) (gN 5) (sSeq (sAsg (gN 6) (cSl (c2 gAdd (cV 3) (cTup (aCons (cV 5) aNil))) oNone (oSome (cV 2)))) (sSeq (sAsg (gN 7) (cIf (tV (c2 gEq (cCall0 (ifN 2 F__law_draw) (aCons (cV 0) (aCons (cC (.int 2)) aNil))) (cC (.int 0)))) (c2 gSub (c1 gLen (cV 6)) (cC (.int 1))) (cCall0 (ifN 2 F__law_draw) (aCons (cV 0) (aCons (c1 gLen (cV 6)) aNil))))) (sSeq (sAsg (gN 4) (c2 gAdd (cV 4) (cTup (aCons (c2 gIx (cV 6) (cV 7)) aNil)))) (sAsg (gN 3) (cSl (cV 6) oNone (oSome (c2 gAdd (cV 7) (cC (.int 1)))))))))) (sRet (cV 4)))))

def F__law_drawn_burden : Fn := body 11 3 (sSeq (sAsg (gN 3) (cCall0 (ifN 3 F__law_plan) (aCons (cV 0) (aCons (c1 gLen (cV 1)) (aCons (cV 2) aNil))))) (sSeq (sAsg (gN 4) (cTup aNil)) (sSeq (sOwn 5 (cLst aNil)) (sSeq (sFor (iEnum (cV 3)) (gT [(gN 6), (gN 7)]) (sSeq (sAsg (gN 8) (cC (.int 0))) (sSeq (sFrz 5) (sSeq (sIf (tV (c2 gEq (c1 gLen (cV 5)) (cV 2))) (sSeq (sAsg (gN 9) (c1 gMin (cComp [10] (iSeq (cV 5)) (gN 10) tYes (c2 gSub (c2 gIx (cV 10) (cC (.int 1))) (c2 gIx (cV 10) (cC (.int 2))))))) (sAsg (gN 8) (c2 gIx (cLst (aCons (cC (.int 0)) (aCons (cV 9) (aCons (cCall0 (ifN 2 F__law_draw) (aCons (cV 0) (aCons (c2 gAdd (cV 9) (cC (.int 1))) aNil))) (aCons (cV 9) aNil))))) (cCall0 (ifN 2 F__law_draw) (aCons (cV 0) (aCons (cC (.int 4)) aNil)))))) sNil) (sSeq (sOwn 5 (cComp [10] (iSeq (cV 5)) (gN 10) (tV (c2 gLt (c2 gIx (cV 10) (cC (.int 0))) (cV 7))) (cLst (aCons (c2 gIx (cV 10) (cC (.int 0))) (aCons (c2 gIx (cV 10) (cC (.int 1))) (aCons (c2 gAdd (c2 gIx (cV 10) (cC (.int 2))) (cV 8)) aNil)))))) (sSeq (sApp (rOwn 5) (cLst (aCons (cV 7) (aCons (c1 gSum (cSl (cV 1) (oSome (cV 7)) (oSome (c2 gAdd (cV 6) (cC (.int 1)))))) (aCons (cC (.int 0)) aNil))))) (sAsg (gN 4) (c2 gAdd (cV 4) (cTup (aCons (cV 8) aNil)))))))))) (sRet (cTup (aCons (cV 3) (aCons (cV 4) aNil))))))))

def F__law_is_apart : Fn := body 3 2 (sSeq (sIf (tOr (tNot (tV (c1 (gIsI "tuple") (cV 1)))) (tV (c2 gNe (c1 gLen (cV 1)) (cC (.int 2))))) (sRet (cC (.bl false))) sNil) (sRet (c1 gAll (cComp [2] (iSeq (cV 1)) (gN 2) tYes (cAnd (c1 (gIsI "tuple") (cV 2)) (c2 gEq (c1 gLen (cV 2)) (c1 gLen (cV 0))))))))

def F__law_deep : Fn := body 3 1 (sSeq (sAsg (gN 1) (c2 gIx (cLst (aCons (cC .non) (aCons (cC (.str "a")) (aCons (c1 gNeg (cC (.int 1))) (aCons cDK aNil))))) (cCall0 (ifN 2 F__law_draw) (aCons (cV 0) (aCons (cC (.int 4)) aNil))))) (sSeq (sFor (iRng (c2 gAdd (cC (.int 1)) (cCall0 (ifN 2 F__law_draw) (aCons (cV 0) (aCons (cC (.int 30)) aNil))))) (gN 2) (sAsg (gN 1) (c2 gIx (cLst (aCons (cTup (aCons (cV 1) aNil)) (aCons (cLst (aCons (cV 1) aNil)) (aCons (cSl (cTup (aCons (cV 1) (aCons (cV 1) aNil))) oNone (oSome (cC (.int 1)))) (aCons (cDK1 (cC (.int 0)) (cV 1)) aNil))))) (cCall0 (ifN 2 F__law_draw) (aCons (cV 0) (aCons (cC (.int 4)) aNil)))))) (sRet (cV 1))))

def F__law_whole : Fn := body 3 3 (sRet (cAnd (c1 (gIsI "int") (cV 0)) (cAnd (cNot (c1 (gIsI "bool") (cV 0))) (cCh gLe gLe (cV 1) (cV 0) (cV 2)))))

def F__law_bent : Fn := body 10 3 (sSeq (sAsg (gT [(gN 7), (gN 8)]) (cV 2)) (sSeq (sAsg (gN 3) (cCall0 (ifN 2 F__law_draw) (aCons (cV 0) (aCons (c1 gLen (cV 1)) aNil)))) (sSeq (sAsg (gN 4) (cCall0 (ifN 2 F__law_draw) (aCons (cV 0) (aCons (cC (.int 9)) aNil)))) (sSeq (sAsg (gN 5) (c2 gIx (cLst (aCons (cC .non) (aCons (cC (.bl true)) (aCons (c1 gNeg (cC (.int 1))) (aCons (cC (.str "1")) (aCons (cTup (aCons (cC (.int 1)) aNil)) (aCons (c2 gPow (cC (.int 10)) (cC (.int 30))) (aCons (cC (.int 1)) (aCons (cC (.int 0)) (aCons (c1 gLen (cV 7)) (aCons cDK (aCons (cLst aNil) aNil)))))))))))) (cCall0 (ifN 2 F__law_draw) (aCons (cV 0) (aCons (cC (.int 11)) aNil))))) (sSeq (sIf (tV (c2 gEq (cV 4) (cC (.int 0)))) (sSeq (sAsg (gN 9) (cLst (aCons (cC .non) (aCons (cTup aNil) (aCons (cV 7) (aCons (c1 gList (cV 2)) (aCons (cTup (aCons (cV 7) (aCons (c1 gList (cV 8)) aNil))) (aCons (cTup (aCons (c1 gList (cV 7)) (aCons (cV 8) aNil))) (aCons (cTup (aCons (cV 8) (aCons (cV 7) aNil))) (aCons (c2 gAdd (cV 2) (cTup (aCons (cC (.int 0)) aNil))) aNil)))))))))) (sRet (c2 gIx (c2 gAdd (cV 9) (cLst (aCons (cSl (cV 2) oNone (oSome (cC (.int 1)))) (aCons (cC (.str "burden")) (aCons (cC (.int 0)) (aCons cDK (aCons (cCall0 (ifN 1 F__law_deep) (aCons (cV 0) aNil)) (aCons (cC (.bl true)) aNil)))))))) (cCall0 (ifN 2 F__law_draw) (aCons (cV 0) (aCons (cC (.int 14)) aNil)))))) sNil) (sSeq (sIf (tV (c2 gEq (cV 4) (cC (.int 1)))) (sRet (cTup (aCons (c2 gAdd (c2 gAdd (cSl (cV 7) oNone (oSome (cV 3))) (cTup (aCons (cV 5) aNil))) (cSl (cV 7) (oSome (c2 gAdd (cV 3) (cC (.int 1)))) oNone)) (aCons (cV 8) aNil)))) sNil) (sSeq (sIf (tV (c2 gEq (cV 4) (cC (.int 2)))) (sRet (cTup (aCons (cV 7) (aCons (c2 gAdd (c2 gAdd (cSl (cV 8) oNone (oSome (cV 3))) (cTup (aCons (cV 5) aNil))) (cSl (cV 8) (oSome (c2 gAdd (cV 3) (cC (.int 1)))) oNone)) aNil)))) sNil) (sSeq (sIf (tV (c2 gEq (cV 4) (cC (.int 3)))) (sSeq (sAsg (gN 9) (cLst (aCons (cTup (aCons (cSl (cV 7) oNone (oSome (c1 gNeg (cC (.int 1))))) (aCons (cV 8) aNil))) (aCons (cTup (aCons (cV 7) (aCons (cSl (cV 8) oNone (oSome (c1 gNeg (cC (.int 1))))) aNil))) (aCons (cTup (aCons (cV 7) (aCons (c2 gAdd (cV 8) (cTup (aCons (cC (.int 0)) aNil))) aNil))) (aCons (cTup (aCons (cSl (cV 7) (oSome (cC (.int 1))) oNone) (aCons (cSl (cV 8) (oSome (cC (.int 1))) oNone) aNil))) aNil)))))) (sRet (c2 gIx (cV 9) (cCall0 (ifN 2 F__law_draw) (aCons (cV 0) (aCons (cC (.int 4)) aNil)))))) sNil) (sSeq (sIf (tV (c2 gGt (cV 4) (cC (.int 6)))) (sRet (cTup (aCons (c2 gAdd (c2 gAdd (cSl (cV 7) oNone (oSome (cV 3))) (cTup (aCons (cCall0 (ifN 2 F__law_draw) (aCons (cV 0) (aCons (c2 gAdd (cV 3) (cC (.int 1))) aNil))) aNil))) (cSl (cV 7) (oSome (c2 gAdd (cV 3) (cC (.int 1)))) oNone)) (aCons (cV 8) aNil)))) sNil) (sSeq (sAsg (gN 6) (c2 gIx (cLst (aCons (cC (.int 1)) (aCons (c1 gNeg (cC (.int 1))) (aCons (c2 gIx (cV 1) (cV 3)) (aCons (cC (.int 2)) aNil))))) (cCall0 (ifN 2 F__law_draw) (aCons (cV 0) (aCons (cC (.int 4)) aNil))))) (sSeq (sIf (tV (cCall0 (ifN 3 F__law_whole) (aCons (c2 gIx (cV 8) (cV 3)) (aCons (cC (.int 0)) (aCons (c2 gPow (cC (.int 10)) (cC (.int 9))) aNil))))) (sAsg (gN 6) (c2 gAdd (cV 6) (c2 gIx (cV 8) (cV 3)))) sNil) (sRet (cTup (aCons (cV 7) (aCons (c2 gAdd (c2 gAdd (cSl (cV 8) oNone (oSome (cV 3))) (cTup (aCons (cV 6) aNil))) (cSl (cV 8) (oSome (c2 gAdd (cV 3) (cC (.int 1)))) oNone)) aNil)))))))))))))))

def F__law_is_plan : Fn := body 6 2 (sSeq (sIf (tOr (tNot (tV (c1 (gIsI "tuple") (cV 1)))) (tV (c2 gNe (c1 gLen (cV 1)) (cV 0)))) (sRet (cC (.bl false))) sNil) (sSeq (sAsg (gN 2) (cTup aNil)) (sSeq (sFor (iEnum (cV 1)) (gT [(gN 3), (gN 4)]) (sSeq (sIf (tOr (tNot (tV (cCall0 (ifN 3 F__law_whole) (aCons (cV 4) (aCons (cC (.int 0)) (aCons (cV 3) aNil)))))) (tV (c2 gNotIn (cV 4) (c2 gAdd (cV 2) (cTup (aCons (cV 3) aNil)))))) (sRet (cC (.bl false))) sNil) (sAsg (gN 2) (c2 gAdd (c1 gTuple (cComp [5] (iSeq (cV 2)) (gN 5) (tV (c2 gLt (cV 5) (cV 4))) (cV 5))) (cTup (aCons (cV 4) aNil)))))) (sRet (cC (.bl true))))))

def F__law_begins : Fn := body 6 1 (sSeq (sOwn 1 (cLst aNil)) (sSeq (sFor (iEnum (cV 0)) (gT [(gN 2), (gN 3)]) (sSeq (sAsg (gN 4) (cIf (tV (c2 gGt (cV 2) (cC (.int 0)))) (c2 gIx (oV 1) (c1 gNeg (cC (.int 1)))) (cTup aNil))) (sApp (rOwn 1) (c2 gAdd (c1 gTuple (cComp [5] (iSeq (cV 4)) (gN 5) (tV (c2 gLt (cV 5) (cV 3))) (cV 5))) (cTup (aCons (cV 3) aNil)))))) (sSeq (sFrz 1) (sRet (cV 1)))))

def F__law_is_burden : Fn := body 12 3 (sSeq (sIf (tOr (tNot (tV (c1 (gIsI "tuple") (cV 2)))) (tOr (tV (c2 gNe (c1 gLen (cV 2)) (cC (.int 2)))) (tNot (tV (cCall0 (ifN 2 F__law_is_plan) (aCons (c1 gLen (cV 0)) (aCons (c2 gIx (cV 2) (cC (.int 0))) aNil))))))) (sRet (cC (.bl false))) sNil) (sSeq (sAsg (gT [(gN 4), (gN 5)]) (cV 2)) (sSeq (sIf (tOr (tNot (tV (c1 (gIsI "tuple") (cV 5)))) (tV (c2 gNe (c1 gLen (cV 5)) (c1 gLen (cV 0))))) (sRet (cC (.bl false))) sNil) (sSeq (sIf (tNot (tV (c1 gAll (cComp [10] (iSeq (cV 5)) (gN 10) tYes (cCall0 (ifN 3 F__law_whole) (aCons (cV 10) (aCons (cC (.int 0)) (aCons (c2 gPow (cC (.int 10)) (cC (.int 60))) aNil)))))))) (sRet (cC (.bl false))) sNil) (sSeq (sAsg (gN 3) (cC (.int 0))) (sSeq (sFor (iEnum (cCall0 (ifN 1 F__law_begins) (aCons (cV 4) aNil))) (gT [(gN 6), (gN 7)]) (sSeq (sIf (tOr (tV (c2 gGt (c1 gLen (cV 7)) (cV 1))) (tAnd (tV (c2 gGt (c2 gIx (cV 5) (cV 6)) (cC (.int 0)))) (tV (c2 gNe (cV 3) (cV 1))))) (sRet (cC (.bl false))) sNil) (sAsg (gN 3) (c1 gLen (cV 7))))) (sSeq (sFor (iEnum (cV 4)) (gT [(gN 6), (gN 8)]) (sSeq (sAsg (gN 9) (c2 gAdd (cComp [11] (iRng2 (c2 gAdd (cV 6) (cC (.int 1))) (c1 gLen (cV 4))) (gN 11) (tV (c2 gLe (c2 gIx (cV 4) (cV 11)) (cV 8))) (cV 11)) (cLst (aCons (c1 gLen (cV 4)) aNil)))) (sIf (tV (c2 gGt (c1 gSum (cSl (cV 5) (oSome (c2 gAdd (cV 6) (cC (.int 1)))) (oSome (c2 gAdd (c2 gIx (cV 9) (cC (.int 0))) (cC (.int 1)))))) (c1 gSum (cSl (cV 0) (oSome (cV 8)) (oSome (c2 gAdd (cV 6) (cC (.int 1)))))))) (sRet (cC (.bl false))) sNil))) (sRet (cC (.bl true))))))))))

def F__law_flag : Fn := body 2 2 (sRet (cAnd (c1 (gIsI "bool") (cV 0)) (c2 gEq (cV 0) (cV 1))))

def F_begins_next : Fn := body 3 2 (sRet (c2 gAdd (c1 gTuple (cComp [2] (iSeq (cV 0)) (gN 2) (tV (c2 gLt (cV 2) (cV 1))) (cV 2))) (cTup (aCons (cV 1) aNil))))

def F_is_plan_of : Fn := body 5 2 (sSeq (sIf (tOr (tNot (tV (c1 (gIsI "tuple") (cV 1)))) (tV (c2 gNe (c1 gLen (cV 1)) (cV 0)))) (sRet (cC (.bl false))) sNil) (sSeq (sAsg (gN 2) (cTup aNil)) (sSeq (sFor (iEnum (cV 1)) (gT [(gN 3), (gN 4)]) (sSeq (sIf (tOr (tNot (tV (cCall0 (ifN 3 F_is_within) (aCons (cV 4) (aCons (cC (.int 0)) (aCons (cV 3) aNil)))))) (tAnd (tV (c2 gNe (cV 4) (cV 3))) (tV (c2 gNotIn (cV 4) (cV 2))))) (sRet (cC (.bl false))) sNil) (sAsg (gN 2) (cCall0 (ifN 2 F_begins_next) (aCons (cV 2) (aCons (cV 4) aNil)))))) (sRet (cC (.bl true))))))

def F_is_pair : Fn := body 1 1 (sRet (cAnd (c1 (gIsI "tuple") (cV 0)) (c2 gEq (c1 gLen (cV 0)) (cC (.int 2)))))

def F_begins_behind : Fn := body 4 1 (sSeq (sOwn 1 (cLst aNil)) (sSeq (sAsg (gN 2) (cTup aNil)) (sSeq (sFor (iSeq (cV 0)) (gN 3) (sSeq (sAsg (gN 2) (cCall0 (ifN 2 F_begins_next) (aCons (cV 2) (aCons (cV 3) aNil)))) (sApp (rOwn 1) (cV 2)))) (sSeq (sFrz 1) (sRet (cV 1))))))

def F_are_raises : Fn := body 6 3 (sSeq (sIf (tOr (tNot (tV (c1 (gIsI "tuple") (cV 2)))) (tV (c2 gNe (c1 gLen (cV 2)) (c1 gLen (cV 0))))) (sRet (cC (.bl false))) sNil) (sSeq (sFor (iEnum (cV 2)) (gT [(gN 3), (gN 4)]) (sSeq (sAsg (gN 5) (cIf (tV (c2 gGt (cV 3) (cC (.int 0)))) (c1 gLen (c2 gIx (cV 0) (c2 gSub (cV 3) (cC (.int 1))))) (cC (.int 0)))) (sIf (tOr (tNot (tV (cCall0 (ifN 1 F_is_integer) (aCons (cV 4) aNil)))) (tOr (tV (c2 gLt (cV 4) (cC (.int 0)))) (tAnd (tV (c2 gGt (cV 4) (cC (.int 0)))) (tV (c2 gNe (cV 5) (cV 1)))))) (sRet (cC (.bl false))) sNil))) (sRet (cC (.bl true)))))

def F_are_borne : Fn := body 11 3 (sSeq (sAsg (gN 3) (cLst aNil)) (sSeq (sFor (iEnum (cV 1)) (gT [(gN 4), (gN 5)]) (sSeq (sAsg (gN 3) (cComp [7, 8, 9] (iSeq (cV 3)) (gT [(gN 7), (gN 8), (gN 9)]) tYes (cTup (aCons (cV 7) (aCons (cV 8) (aCons (c2 gAdd (cV 9) (c2 gIx (cV 2) (cV 4))) aNil)))))) (sSeq (sIf (tV (c1 gAny (cComp [7, 8, 9] (iSeq (cV 3)) (gT [(gN 7), (gN 8), (gN 9)]) tYes (c2 gGt (cV 9) (cV 8))))) (sRet (cC (.bl false))) sNil) (sSeq (sAsg (gN 6) (c2 gAdd (c1 gSum (cComp [7, 8, 9] (iSeq (cV 3)) (gT [(gN 7), (gN 8), (gN 9)]) (tV (c2 gGe (cV 7) (cV 5))) (cV 8))) (c2 gIx (cV 0) (cV 4)))) (sAsg (gN 3) (c2 gAdd (cComp [10] (iSeq (cV 3)) (gN 10) (tV (c2 gLt (c2 gIx (cV 10) (cC (.int 0))) (cV 5))) (cV 10)) (cLst (aCons (cTup (aCons (cV 5) (aCons (cV 6) (aCons (cC (.int 0)) aNil)))) aNil)))))))) (sRet (cC (.bl true)))))

def F_is_burden_there : Fn := body 5 3 (sSeq (sIf (tOr (tNot (tV (cCall0 (ifN 1 F_is_pair) (aCons (cV 2) aNil)))) (tNot (tV (cCall0 (ifN 2 F_is_plan_of) (aCons (c1 gLen (cV 0)) (aCons (c2 gIx (cV 2) (cC (.int 0))) aNil)))))) (sRet (cC (.bl false))) sNil) (sSeq (sAsg (gN 3) (cCall0 (ifN 1 F_begins_behind) (aCons (c2 gIx (cV 2) (cC (.int 0))) aNil))) (sSeq (sIf (tOr (tV (c1 gAny (cComp [4] (iSeq (cV 3)) (gN 4) tYes (c2 gGt (c1 gLen (cV 4)) (cV 1))))) (tNot (tV (cCall0 (ifN 3 F_are_raises) (aCons (cV 3) (aCons (cV 1) (aCons (c2 gIx (cV 2) (cC (.int 1))) aNil))))))) (sRet (cC (.bl false))) sNil) (sRet (cCall0 (ifN 3 F_are_borne) (aCons (cV 0) (aCons (c2 gIx (cV 2) (cC (.int 0))) (aCons (c2 gIx (cV 2) (cC (.int 1))) aNil))))))))

def F_is_burden : Fn := body 3 3 (sSeq (sExpr (cCall0 (ifN 2 F_check_sizes_and_most) (aCons (cV 0) (aCons (cV 1) aNil)))) (sRet (cCall0 (ifN 3 F_is_burden_there) (aCons (cV 0) (aCons (cV 1) (aCons (cV 2) aNil))))))

def F_weight : Fn := body 3 3 (sSeq (sExpr (cCall0 (ifN 2 F_check_sizes_and_most) (aCons (cV 0) (aCons (cV 1) aNil)))) (sSeq (sIf (tNot (tV (cCall0 (ifN 3 F_is_burden_there) (aCons (cV 0) (aCons (cV 1) (aCons (cV 2) aNil)))))) (sRaise 0) sNil) (sRet (c2 gAdd (c1 gSum (c2 gIx (cV 2) (cC (.int 1)))) (c1 gSum (cV 0))))))

def F__law_told : Fn := body 4 3 (sSeq (sAsg (gN 3) (cC (.str "burden"))) (sSeq (sTry (tabM [(0, true)]) (sAsg (gN 3) (cCall (ifN 3 F_weight) (aCons (cV 0) (aCons (cV 1) (aCons (cV 2) aNil))))) (sAsg (gN 3) (cC (.str "none")))) (sRet (cV 3))))

def F_law : Fn := body 10 1 (sSeq (sAsg (gN 1) (cCall0 (ifN 1 F__law_hand) (aCons (cV 0) aNil))) (sSeq (sFor (iRng (cC (.int 4))) (gN 2) (sSeq (sAsg (gN 3) (cCall0 (ifN 3 F__law_sizes) (aCons (cV 1) (aCons (c2 gAdd (cC (.int 1)) (cCall0 (ifN 2 F__law_draw) (aCons (cV 1) (aCons (cC (.int 12)) aNil)))) (aCons (c2 gIx (cLst (aCons (cC (.int 1)) (aCons (cC (.int 3)) (aCons (cC (.int 9)) (aCons (c2 gPow (cC (.int 10)) (cC (.int 6))) aNil))))) (cCall0 (ifN 2 F__law_draw) (aCons (cV 1) (aCons (cC (.int 4)) aNil)))) aNil))))) (sSeq (sAsg (gN 4) (c2 gAdd (cC (.int 1)) (cCall0 (ifN 2 F__law_draw) (aCons (cV 1) (aCons (cC (.int 4)) aNil))))) (sSeq (sAsg (gN 5) (cTup (aCons (cCall0 (ifN 2 F_by_credits) (aCons (cV 3) (aCons (cV 4) aNil))) (aCons (cCall0 (ifN 2 F_raises) (aCons (cV 3) (aCons (cV 4) aNil))) aNil)))) (sSeq (sIf (tV (c2 gEq (cCall0 (ifN 2 F__law_draw) (aCons (cV 1) (aCons (cC (.int 2)) aNil))) (cC (.int 0)))) (sAsg (gN 5) (cCall0 (ifN 3 F__law_drawn_burden) (aCons (cV 1) (aCons (cV 3) (aCons (cV 4) aNil))))) sNil) (sFor (iRng (cC (.int 3))) (gN 6) (sSeq (sAsg (gN 7) (cV 5)) (sSeq (sFor (iRng (cCall0 (ifN 2 F__law_draw) (aCons (cV 1) (aCons (cC (.int 3)) aNil)))) (gN 8) (sIf (tV (cCall0 (ifN 2 F__law_is_apart) (aCons (cV 3) (aCons (cV 7) aNil)))) (sAsg (gN 7) (cCall0 (ifN 3 F__law_bent) (aCons (cV 1) (aCons (cV 3) (aCons (cV 7) aNil))))) sNil)) (sSeq (sAsg (gN 9) (cCall0 (ifN 3 F__law_is_burden) (aCons (cV 3) (aCons (cV 4) (aCons (cV 7) aNil))))) (sSeq (sIf (tNot (tV (cCall0 (ifN 2 F__law_flag) (aCons (cCall0 (ifN 3 F_is_burden) (aCons (cV 3) (aCons (cV 4) (aCons (cV 7) aNil)))) (aCons (cV 9) aNil))))) (sRet (cC (.bl false))) sNil) (sIf (tV (c2 gNe (cCall0 (ifN 3 F__law_told) (aCons (cV 3) (aCons (cV 4) (aCons (cV 7) aNil)))) (cIf (tV (cV 9)) (c2 gAdd (c1 gSum (cV 3)) (c1 gSum (c2 gIx (cV 7) (cC (.int 1))))) (cC (.str "none"))))) (sRet (cC (.bl false))) sNil))))))))))) (sRet (cC (.bl true)))))

end K75
namespace K75
open PySem J

/-! ## the draw -/
def hd (cells : List Int) (p : Nat) (b c d : Int) : Cell := .lst [.lst (dI cells), .int p, .int b, .int c, .int d]
@[simp] theorem pow18 : gPow (.int 10) (.int 18) = some (.int 1000000000000000000) := by rfl
@[simp] theorem pow6 : gPow (.int 10) (.int 6) = some (.int 1000000) := by rfl
theorem ixN_nat (n p : Nat) (h : p < n) : ixN n (p : Int) = some p := by
  unfold ixN
  rw [if_pos (by omega), if_pos (by omega)]
  simp
def rn1 (c d : Int) : Int := (c + 7919 * d) * 48271 % 2147483647
def rn2 (c d : Int) : Int := rn1 c d * (rn1 c d / 1009 + 69621) % 2147483647
def rn3 (c d : Int) : Int := rn2 c d * (rn2 c d / 2003 + 40692) % 2147483399
theorem small_mod (a b : Int) (h : 0 < b) (h2 : b ≤ 18446744073709551616) : small64 (a % b) = true := by
  have h1 := Int.emod_nonneg a (by omega : b ≠ 0)
  have h3 := Int.emod_lt_of_pos a h
  unfold small64
  simp
  omega
theorem rn1_small (c d : Int) : small64 (rn1 c d) = true := small_mod _ _ (by decide) (by decide)
theorem rn2_small (c d : Int) : small64 (rn2 c d) = true := small_mod _ _ (by decide) (by decide)
theorem gm1 (c d : Int) : gMul (.int (c + 7919 * d)) (.int 48271) = some (.int ((c + 7919 * d) * 48271)) := gMul_int _ _ (.inr (by decide))
theorem mod1 (c d : Int) : gMod (.int ((c + 7919 * d) * 48271)) (.int 2147483647) = some (.int (rn1 c d)) := gMod_int _ _ (by decide)
theorem mod2 (c d : Int) : gMod (.int (rn1 c d * (rn1 c d / 1009 + 69621))) (.int 2147483647) = some (.int (rn2 c d)) := gMod_int _ _ (by decide)
theorem mod3 (c d : Int) : gMod (.int (rn2 c d * (rn2 c d / 2003 + 40692))) (.int 2147483399) = some (.int (rn3 c d)) := gMod_int _ _ (by decide)
theorem gm2 (c d x : Int) : gMul (.int (rn1 c d)) (.int x) = some (.int (rn1 c d * x)) := gMul_int _ _ (.inl (rn1_small c d))
theorem gm3 (c d x : Int) : gMul (.int (rn2 c d)) (.int x) = some (.int (rn2 c d * x)) := gMul_int _ _ (.inl (rn2_small c d))
theorem gm0 (d : Int) : gMul (.int 7919) (.int d) = some (.int (7919 * d)) := gMul_int _ _ (.inl (by decide))
theorem gm4 (c : Int) : gMul (.int c) (.int 69621) = some (.int (c * 69621)) := gMul_int _ _ (.inr (by decide))
theorem gd (a b : Int) (h : 0 < b) (h2 : b < 1073741824) : gDiv (.int a) (.int b) = some (.int (a / b)) := gDiv_int a b h h2
theorem gd1 (a : Int) : gDiv (.int a) (.int 1009) = some (.int (a / 1009)) := gDiv_int _ _ (by decide) (by decide)
theorem gd2 (a : Int) : gDiv (.int a) (.int 2003) = some (.int (a / 2003)) := gDiv_int _ _ (by decide) (by decide)
theorem gd3 (a : Int) : gDiv (.int a) (.int 16) = some (.int (a / 16)) := gDiv_int _ _ (by decide) (by decide)
theorem gmo (a : Int) : gMod (.int a) (.int 2147483629) = some (.int (a % 2147483629)) := gMod_int _ _ (by decide)
/-- no new cell is taken, a random number -/
theorem e_draw2 (cells : List Int) (p : Nat) (c d m : Int) (hm : 0 < m) (h2 : ¬ (p : Int) < cells.length) : F__law_draw [.loc 0, .int m] [hd cells p 0 c d] = .ok (.int (rn3 c (d + 1) / 16 % m)) [hd cells p 0 c (d + 1)] := by
  simp [F__law_draw, hd, view, ixN, h2, gm0, gm1, mod1, gd1, gm2, mod2, gd2, gm3, mod3, gd3, gMod_int _ _ hm]
theorem e_draw3 (cells : List Int) (p : Nat) (b c d m : Int) (hm : 0 < m) (hm2 : m < 1073741824) (hb : 0 < b) : F__law_draw [.loc 0, .int m] [hd cells p b c d] = .ok (.int (b % m)) [hd cells p (b / m) c d] := by
  have hb2 : ¬ b = 0 := by omega
  simp [F__law_draw, hd, view, ixN, hb, hb2, gMod_int _ _ hm, gDiv_int _ _ hm hm2]
@[simp] theorem ix50 : ixN 5 0 = some 0 := rfl
@[simp] theorem ix51 : ixN 5 1 = some 1 := rfl
@[simp] theorem ix52 : ixN 5 2 = some 2 := rfl
@[simp] theorem ix53 : ixN 5 3 = some 3 := rfl
@[simp] theorem ix54 : ixN 5 4 = some 4 := rfl
theorem e_draw1 (cells : List Int) (p : Nat) (c d m x : Int) (hm : 0 < m) (hm2 : m < 1073741824) (h2 : (p : Int) < cells.length) (hx : cells[p]? = some x) :
    (1000000000000000000 ≤ x → F__law_draw [.loc 0, .int m] [hd cells p 0 c d] = .ok (.int (x % m)) [hd cells (p + 1) (x / m) ((c * 69621 + x + 11) % 2147483629) d]) ∧
    (¬ 1000000000000000000 ≤ x → F__law_draw [.loc 0, .int m] [hd cells p 0 c d] = .ok (.int (rn3 ((c * 69621 + x + 11) % 2147483629) (d + 1) / 16 % m)) [hd cells (p + 1) 0 ((c * 69621 + x + 11) % 2147483629) (d + 1)]) := by
  have hp : p < cells.length := by omega
  have hp2 := ixN_nat _ _ hp
  constructor
  · intro h
    have hb : 0 < x := by omega
    have hb2 : ¬ x = 0 := by omega
    simp [F__law_draw, hd, view, h2, hm, gmo, gm4, h, hb, hb2, gMod_int _ _ hm, gDiv_int _ _ hm hm2, hp2, hx]
  · intro h
    simp [F__law_draw, hd, view, h2, gm0, gm1, mod1, gd1, gm2, mod2, gd2, gm3, mod3, gd3, gMod_int _ _ hm, gmo, gm4, h, hp2, hx]
/-- the hand -/
def Hand (M : Mem) : Prop := ∃ cells p b c d, 0 ≤ b ∧ M = [hd cells p b c d]
theorem e_draw (M : Mem) (m : Int) (hM : Hand M) (hm : 0 < m) (hm2 : m < 1073741824) : ∃ r M', F__law_draw [.loc 0, .int m] M = .ok (.int r) M' ∧ Hand M' ∧ 0 ≤ r ∧ r < m := by
  obtain ⟨cells, p, b, c, d, hb, rfl⟩ := hM
  have md : ∀ a : Int, 0 ≤ a % m ∧ a % m < m := fun a => ⟨Int.emod_nonneg _ (by omega), Int.emod_lt_of_pos _ hm⟩
  by_cases h0 : b = 0
  · subst h0
    by_cases h2 : (p : Int) < cells.length
    · obtain ⟨x, hx⟩ : ∃ x, cells[p]? = some x := ⟨cells[p]'(by omega), List.getElem?_eq_getElem (by omega)⟩
      obtain ⟨e1, e2⟩ := e_draw1 cells p c d m x hm hm2 h2 hx
      by_cases h3 : 1000000000000000000 ≤ x
      · exact ⟨_, _, e1 h3, ⟨_, _, _, _, _, Int.ediv_nonneg (by omega) (by omega), rfl⟩, (md _).1, (md _).2⟩
      · exact ⟨_, _, e2 h3, ⟨_, _, _, _, _, Int.le_refl _, rfl⟩, (md _).1, (md _).2⟩
    · exact ⟨_, _, e_draw2 cells p c d m hm h2, ⟨_, _, _, _, _, Int.le_refl _, rfl⟩, (md _).1, (md _).2⟩
  · exact ⟨_, _, e_draw3 cells p b c d m hm hm2 (by omega), ⟨_, _, _, _, _, Int.ediv_nonneg hb (by omega), rfl⟩, (md _).1, (md _).2⟩

theorem e_hand (ns : List Int) : ∃ M, F__law_hand [.scr (ns.map .int)] [] = .ok (.loc 0) M ∧ Hand M := by
  have h := compL_map (vs := [2]) (g := gN 2) (f := c1 gAbs (c1 gInt (cV 2))) (E := [.sh (.scr (ns.map .int)), .un, .un]) (M := []) D.int (fun i => D.int (if i < 0 then -i else i)) (ns.take 63) fun x _ => ⟨_, rfl, by simp [wipe]⟩
  have e : (ns.take 63).map D.int = cutD (ns.map D.int) none (some 63) := by
    have := cutD_hi (ds := ns.map D.int) (b := 63)
    rw [List.map_take]
    exact this.symm
  have e2 : ∀ xs : List Int, xs.map (fun i => D.int (if i < 0 then -i else i)) = dI (xs.map fun i => if i < 0 then -i else i) := fun xs => by simp [dI]
  refine ⟨[hd ((ns.take 63).map fun i => if i < 0 then -i else i) 0 0 (1 + ((ns.take 63).length : Int)) 0], ?_, ⟨_, _, _, _, _, Int.le_refl _, rfl⟩⟩
  rw [e, e2] at h
  simp [F__law_hand, h, hd, sizeMax]

/-! ## rows of sizes -/
def Sz (sz : List Int) : Prop := 1 ≤ sz.length ∧ sz.length ≤ 12 ∧ ∀ s ∈ sz, 1 ≤ s ∧ s ≤ 1000000
theorem e_sizes (M : Mem) (n : Nat) (m : Int) (hM : Hand M) (hm : 0 < m) (hm2 : m ≤ 1000000) (hn : 1 ≤ n) (hn2 : n ≤ 12) :
    ∃ sz M', F__law_sizes [.loc 0, .int n, .int m] M = .ok (.tup (dI sz)) M' ∧ Hand M' ∧ sz.length = n ∧ Sz sz := by
  obtain ⟨ds, M', h1, sz, h2, h3, h4, h5⟩ := compL_run (vs := [3]) (g := gN 3) (f := c2 gAdd (cC (.int 1)) (cCall0 (ifN 2 F__law_draw) (aCons (cV 0) (aCons (cV 2) aNil)))) (E := [.sh (.loc 0), .sh (.int n), .sh (.int m), .un]) (fun i : Nat => D.int (i : Int))
    (fun out M => ∃ sz : List Int, out = dI sz ∧ Hand M ∧ sz.length = out.length ∧ ∀ s ∈ sz, 1 ≤ s ∧ s ≤ 1000000) (List.range n) (fun x _ out M ⟨sz, h1, h2, h3, h4⟩ => by
      obtain ⟨r, M', e, hh, r1, r2⟩ := e_draw M m h2 hm (by omega)
      refine ⟨_, .int (1 + r), M', rfl, by simp [wipe, e], sz ++ [1 + r], by simp [dI, h1], hh, by simp [h3], fun s hs => ?_⟩
      rcases List.mem_append.mp hs with q | q
      · exact h4 s q
      · rw [List.mem_singleton.mp q]; omega) [] M ⟨[], rfl, hM, rfl, fun s h => by cases h⟩
  simp at h2
  have hl : sz.length = n := by
    have h1l : ds.length = n := by
      have : ∀ (xs : List D) E M ds M', compL [3] (gN 3) tYes (c2 gAdd (cC (.int 1)) (cCall0 (ifN 2 F__law_draw) (aCons (cV 0) (aCons (cV 2) aNil)))) xs E M = .ok ds M' → ds.length = xs.length := compL_len
      have := this _ _ _ _ _ h1
      simpa using this
    rw [h4]; simpa using h1l
  subst h2
  refine ⟨sz, M', ?_, h3, hl, by omega, by omega, h5⟩
  have e := upFrom0 n
  have : n ≤ 16777216 := by omega
  simp [F__law_sizes, e, sizeMax, h1, this]
end K75
namespace K75
open PySem J PM

theorem e_is_integer (i : Int) (M : Mem) : F_is_integer [.int i] M = .ok (.bl true) M := by simp [F_is_integer]
theorem e_is_within (a b c : Int) (M : Mem) : F_is_within [.int a, .int b, .int c] M = .ok (.bl (decide (b ≤ a) && decide (a ≤ c))) M := by
  by_cases h : b ≤ a <;> simp [F_is_within, e_is_integer, h]
theorem e_check_sizes (sz : List Int) (hs : Sz sz) (M : Mem) : F_check_sizes [.tup (dI sz)] M = .ok .non M := by
  obtain ⟨h1, h2, h3⟩ := hs
  have h := compL_map (vs := [1]) (g := gN 1) (f := cCall0 (ifN 3 F_is_within) (aCons (cV 1) (aCons (cC (.int 1)) (aCons (cC (.int 1000000)) aNil)))) (E := [.sh (.tup (dI sz)), .un]) (M := M) D.int (fun i => D.bl true) sz fun x hx => ⟨_, rfl, by
    have := h3 x hx
    simp [wipe, e_is_within, this.1, this.2]⟩
  have e : sz.map (fun _ => D.bl true) = List.replicate sz.length (D.bl true) := List.map_const'
  rw [e] at h
  have l1 : (1 : Int) ≤ (sz.length : Int) := by omega
  have l2 : (sz.length : Int) ≤ 40 := by omega
  simp [F_check_sizes, l1, l2, h]
theorem e_check_most (m : Int) (h1 : 1 ≤ m) (h2 : m ≤ 30) (M : Mem) : F_check_most [.int m] M = .ok .non M := by
  simp [F_check_most, F_check_number, e_is_within, h1, h2]
theorem S_eq (sz : List Int) (f l : Nat) : gSum (.tup (cutD (dI sz) (some (f : Int)) (some ((l : Int) + 1)))) = some (.int (S sz f l)) := by
  have e6 : some ((l : Int) + 1) = some ((l + 1 : Nat) : Int) := by congr 1
  rw [e6, cutD_both]
  unfold dI
  rw [← List.map_drop, ← List.map_take, gSum_tup]
  rfl
end K75
namespace K75
open PySem J PM

abbrev dN (ns : List Nat) : List D := ns.map fun (n : Nat) => D.int (n : Int)
theorem S_gen (sz : List Int) (g h : Nat) : gSum (.tup (cutD (dI sz) (some (g : Int)) (some ((h : Int) + 1)))) = some (.int (S sz g h)) := S_eq sz g h
/-- the pairs of enumerate -/
theorem pair_enum (pl : List Nat) : pairUp (upFrom 0 pl.length) (dN pl) = ((List.range pl.length).zip pl).map fun p => D.tup [.int (p.1 : Int), .int (p.2 : Int)] := by
  rw [upFrom0, pairUp_map (fun n : Nat => D.int (n : Int)) (fun n : Nat => D.int (n : Int))]
theorem e_begins_next (st : List Nat) (g : Nat) (M : Mem) (hl : st.length ≤ 100) : F_begins_next [.tup (dN st), .int g] M = .ok (.tup (dN (st.filter (· < g) ++ [g]))) M := by
  have h := compL_filter (vs := [2]) (g := gN 2) (t := tV (c2 gLt (cV 2) (cV 1))) (f := cV 2) (E := [.sh (.tup (dN st)), .sh (.int g), .un]) (M := M) (fun n : Nat => D.int (n : Int)) (fun n : Nat => D.int (n : Int)) (fun n => decide (n < g)) st fun x hx => ⟨_, rfl, by simp [wipe], fun _ => by simp [wipe]⟩
  have h2 : (st.filter fun n => decide (n < g)).length ≤ st.length := List.length_filter_le _ _
  have h3 : (st.filter fun n => decide (n < g)).length + 1 ≤ sizeMax := by unfold sizeMax; omega
  have h4 : 1 ≤ sizeMax := by decide
  simp [F_begins_next, h, h3, h4]
theorem any_dN (st : List Nat) (g : Nat) : gNotIn (.int g) (.tup (dN st)) = some (.bl (!decide (g ∈ st))) := by
  have e1 : (dN st).all flat1 = true := by simp [flat1]
  have e2 : ((dN st).any fun y => eqD y (.int g)) = decide (g ∈ st) := by
    rw [Bool.eq_iff_iff, List.any_eq_true, decide_eq_true_eq]
    constructor
    · rintro ⟨y, hy, e⟩
      obtain ⟨n, hn, rfl⟩ := List.mem_map.mp hy
      have e : ((n : Int) == (g : Int)) = true := e
      have : n = g := by have := eq_of_beq e; omega
      rw [← this]; exact hn
    · intro h
      exact ⟨_, List.mem_map.mpr ⟨g, h, rfl⟩, by show ((g : Int) == (g : Int)) = true; exact beq_self_eq_true _⟩
  show (if (flat1 (.int g) && (dN st).all flat1) = true then some (D.bl ((dN st).any fun y => eqD y (.int g))) else none).bind gNot = _
  rw [if_pos (by rw [e1]; rfl), e2]
  rfl
theorem e_plan_loop (n : Nat) (pl0 : List Nat) : ∀ (h : Nat) (b pl : List Nat) (x y : Sl) (M : Mem), PlanOk h b pl → b.length + pl.length ≤ 100 → ∃ E',
    forL (gT [gN 3, gN 4]) (sSeq (sIf (tOr (tNot (tV (cCall0 (ifN 3 F_is_within) (aCons (cV 4) (aCons (cC (.int 0)) (aCons (cV 3) aNil)))))) (tAnd (tV (c2 gNe (cV 4) (cV 3))) (tV (c2 gNotIn (cV 4) (cV 2))))) (sRet (cC (.bl false))) sNil) (sAsg (gN 2) (cCall0 (ifN 2 F_begins_next) (aCons (cV 2) (aCons (cV 4) aNil)))))
      (((List.range' h pl.length).zip pl).map fun p => D.tup [.int (p.1 : Int), .int (p.2 : Int)]) [.sh (.int n), .sh (.tup (dN pl0)), .sh (.tup (dN b)), x, y] M = .ok (.nx, E') M
  | h, b, [], x, y, M, _, _ => ⟨_, rfl⟩
  | h, b, g :: pl, x, y, M, p, hl => by
    obtain ⟨p0, p1, p2⟩ := p
    have hf : (b.filter (· < g)).length ≤ b.length := List.length_filter_le _ _
    rw [List.length_cons] at hl
    obtain ⟨E', e⟩ := e_plan_loop n pl0 (h + 1) (b.filter (· < g) ++ [g]) pl (.sh (.int h)) (.sh (.int g)) M p2 (by rw [List.length_append, List.length_singleton]; omega)
    refine ⟨E', ?_⟩
    rw [List.length_cons, List.range'_succ, List.zip_cons_cons, List.map_cons, forL, ← e]
    have q1 : (0 : Int) ≤ (g : Int) := by omega
    have q2 : (g : Int) ≤ (h : Int) := by omega
    by_cases q3 : g = h
    · subst q3
      have hb := e_begins_next b g M (by omega)
      simp [gsN, e_is_within, hb]
    · have q4 : ¬ ((g : Int) = (h : Int)) := by omega
      have q5 : g ∈ b := by rcases p1 with q | q; exact (q3 q).elim; exact q
      have hb := e_begins_next b g M (by omega)
      simp [gsN, e_is_within, hb, p0, q3, q4, q5, any_dN]
theorem e_is_plan {n : Nat} {pl : List Nat} (p : PlanOk 0 [] pl) (hn : pl.length = n) (hl : n ≤ 100) (M : Mem) : F_is_plan_of [.int n, .tup (dN pl)] M = .ok (.bl true) M := by
  obtain ⟨E', h⟩ := e_plan_loop n pl 0 [] pl .un .un M p (by simp; omega)
  rw [← List.range_eq_range', ← pair_enum, show dN [] = [] from rfl] at h
  subst hn
  simp [F_is_plan_of, sizeMax, h]
/-! ## a drawn plan -/
theorem snoc_take {st : List Nat} {h m a g : Nat} (ha : a < m) (hg : (st ++ [h])[a]? = some g) : ((st ++ [h]).take m).take (a + 1) = st.take a ++ [g] := by
  have hlt : a < (st ++ [h]).length := (List.getElem?_eq_some_iff.mp hg).1
  have hal : a ≤ st.length := by rw [List.length_append, List.length_singleton] at hlt; omega
  rw [List.take_take, show min (a + 1) m = a + 1 by omega, List.take_add_one, hg, List.take_append_of_le_length hal]
  rfl
abbrev planTurn : CS := sSeq (sAsg (gN 6) (cSl (c2 gAdd (cV 3) (cTup (aCons (cV 5) aNil))) oNone (oSome (cV 2)))) (sSeq (sAsg (gN 7) (cIf (tV (c2 gEq (cCall0 (ifN 2 F__law_draw) (aCons (cV 0) (aCons (cC (.int 2)) aNil))) (cC (.int 0)))) (c2 gSub (c1 gLen (cV 6)) (cC (.int 1))) (cCall0 (ifN 2 F__law_draw) (aCons (cV 0) (aCons (c1 gLen (cV 6)) aNil))))) (sSeq (sAsg (gN 4) (c2 gAdd (cV 4) (cTup (aCons (c2 gIx (cV 6) (cV 7)) aNil)))) (sAsg (gN 3) (cSl (cV 6) oNone (oSome (c2 gAdd (cV 7) (cC (.int 1))))))))
theorem cut_take (xs : List Nat) (k : Nat) : cutD (dN xs) none (some (k : Int)) = dN (xs.take k) := by
  rw [cutD_hi]
  show ((xs.map fun (n : Nat) => D.int (n : Int)).take k) = (xs.take k).map fun (n : Nat) => D.int (n : Int)
  rw [List.map_take]
theorem cut_take1 (xs : List Nat) (k : Nat) : cutD (dN xs) none (some ((k : Int) + 1)) = dN (xs.take (k + 1)) := by
  have e6 : some ((k : Int) + 1) = some ((k + 1 : Nat) : Int) := by congr 1
  rw [e6, cut_take]
theorem dN_snoc (xs : List Nat) (x : Nat) : dN xs ++ [D.int x] = dN (xs ++ [x]) := by simp
theorem e_turn {st pl some : List Nat} {m n h a g : Nat} {r : Int} {M M1 M2 : Mem} {y z : Sl} (x1 : Sl) (hs : some = (st ++ [h]).take m) (hst : st.length ≤ 100) (hpl : pl.length ≤ 100)
    (e1 : F__law_draw [.loc 0, .int 2] M = .ok (.int r) M1) (e2 : (if r = 0 then (R.ok (D.int ((some.length : Int) - 1)) M1 : R D) else F__law_draw [.loc 0, .int (some.length : Int)] M1) = .ok (.int a) M2) (ha : a < some.length) (hg : some[a]? = Option.some g) :
    planTurn [.sh (.loc 0), .sh (.int n), .sh (.int m), .sh (.tup (dN st)), .sh (.tup (dN pl)), .sh (.int h), y, z] M = .ok (.nx, [.sh (.loc 0), .sh (.int n), .sh (.int m), .sh (.tup (dN (some.take (a + 1)))), .sh (.tup (dN (pl ++ [g]))), .sh (.int h), .sh (.tup (dN some)), .sh (.int a)]) M2 := by
  have l1 : st.length + 1 ≤ sizeMax := by unfold sizeMax; omega
  have l2 : pl.length + 1 ≤ sizeMax := by unfold sizeMax; omega
  have l3 : 1 ≤ sizeMax := by decide
  have ix : gIx (.tup (dN some)) (.int a) = Option.some (.int g) := by
    show (ixN (dN some).length (a : Int)).bind (fun j => (dN some)[j]?) = _
    rw [ixN_nat _ _ (by simpa using ha)]
    simp [hg]
  have c1 : cutD (dN (st ++ [h])) none (Option.some (m : Int)) = dN some := by rw [cut_take, hs]
  by_cases q : r = 0
  · rw [if_pos q] at e2
    have e3 : ((some.length : Int) - 1) = (a : Int) ∧ M1 = M2 := by
      have := R.ok.inj e2
      exact ⟨D.int.inj this.1, this.2⟩
    obtain ⟨e3, rfl⟩ := e3
    subst q
    simp [-List.map_append, dN_snoc, l1, l2, l3, c1, cut_take1, e1, ix, -gIx, e3]
  · rw [if_neg q] at e2
    simp [-List.map_append, dN_snoc, l1, l2, l3, c1, cut_take1, e1, e2, ix, -gIx, q]
theorem e_law_plan (sz : List Int) (n m : Nat) (hm : 1 ≤ m) (hm2 : m ≤ 100) (hn : n ≤ 100) (M : Mem) (hM : Hand M) :
    ∃ pl M' st c, F__law_plan [.loc 0, .int n, .int m] M = .ok (.tup (dN pl)) M' ∧ Hand M' ∧ Path sz m 0 n st pl c := by
  obtain ⟨E', M', h1, st, pl, c, x, y, z, h2, h3, h4⟩ := forL_run (g := gN 5) (s := planTurn)
    (fun i : Nat => D.int (i : Int)) (fun i E M => ∃ st pl c x y z, E = [.sh (.loc 0), .sh (.int n), .sh (.int m), .sh (.tup (dN st)), .sh (.tup (dN pl)), x, y, z] ∧ Hand M ∧ Path sz m 0 i st pl c) (List.range n) 0
    (fun i x E M hx hp => by
      obtain ⟨st, pl, c, x1, y1, z1, rfl, hM, p⟩ := hp
      have hi : i < n ∧ x = i := by
        obtain ⟨a, b⟩ := List.getElem?_eq_some_iff.mp hx
        simp at a b
        omega
      obtain ⟨hi, rfl⟩ := hi
      rw [Nat.zero_add] at p
      have hsl := p.stl
      have hpl := p.len
      -- how many there are
      have hk1 : 1 ≤ ((st ++ [x]).take m).length := by rw [List.length_take, List.length_append, List.length_singleton]; omega
      obtain ⟨r, M1, e1, hM1, r1, r2⟩ := e_draw M 2 hM (by decide) (by decide)
      -- which is taken
      have pick : ∃ (a : Nat) (M2 : Mem), a < ((st ++ [x]).take m).length ∧ Hand M2 ∧ (if r = 0 then (R.ok (D.int ((((st ++ [x]).take m).length : Int) - 1)) M1 : R D) else F__law_draw [.loc 0, .int (((st ++ [x]).take m).length : Int)] M1) = .ok (.int a) M2 := by
        by_cases q : r = 0
        · exact ⟨((st ++ [x]).take m).length - 1, M1, by omega, hM1, by rw [if_pos q]; congr 2; omega⟩
        · obtain ⟨r', M2, e2, hM2, r3, r4⟩ := e_draw M1 (((st ++ [x]).take m).length : Int) hM1 (by omega) (by rw [List.length_take, List.length_append]; simp; omega)
          exact ⟨r'.toNat, M2, by omega, hM2, by rw [if_neg q, e2]; congr 2; omega⟩
      obtain ⟨a, M2, ha, hM2, e2⟩ := pick
      have ham : a < m := by rw [List.length_take] at ha; omega
      have hal : a < (st ++ [x]).length := by rw [List.length_take] at ha; omega
      obtain ⟨g, hg⟩ : ∃ g, (st ++ [x])[a]? = some g := ⟨_, List.getElem?_eq_getElem hal⟩
      have p2 := Path.step p a g ham hg
      have t := e_turn (pl := pl) (n := n) (y := y1) (z := z1) x1 rfl (by omega) (by omega) e1 e2 ha (by rw [List.getElem?_take_of_lt ham]; exact hg)
      rw [snoc_take ham hg] at t
      exact ⟨_, _, M2, rfl, .inl t, _, _, _, _, _, _, rfl, hM2, by rw [Nat.zero_add]; exact p2⟩) [.sh (.loc 0), .sh (.int n), .sh (.int m), .sh (.tup []), .sh (.tup []), .un, .un, .un] M ⟨[], [], 0, .un, .un, .un, rfl, hM, .nil⟩
  rw [List.length_range, Nat.zero_add] at h4
  refine ⟨pl, M', st, c, ?_, h3, h4⟩
  have l1 : n ≤ sizeMax := by unfold sizeMax; omega
  have l0 : 0 ≤ sizeMax := by decide
  rw [← upFrom0] at h1
  subst h2
  simp [F__law_plan, l1, l0, h1]
end K75
namespace K75
open PySem J PM PB
def rD (sz : List Int) (q : PB.R) : D := .lst [.int q.a, .int (S sz q.a q.e), .int q.x]
def burdIf : CS := sIf (tV (c2 gEq (c1 gLen (cV 5)) (cV 2))) (sSeq (sAsg (gN 9) (c1 gMin (cComp [10] (iSeq (cV 5)) (gN 10) tYes (c2 gSub (c2 gIx (cV 10) (cC (.int 1))) (c2 gIx (cV 10) (cC (.int 2))))))) (sAsg (gN 8) (c2 gIx (cLst (aCons (cC (.int 0)) (aCons (cV 9) (aCons (cCall0 (ifN 2 F__law_draw) (aCons (cV 0) (aCons (c2 gAdd (cV 9) (cC (.int 1))) aNil))) (aCons (cV 9) aNil))))) (cCall0 (ifN 2 F__law_draw) (aCons (cV 0) (aCons (cC (.int 4)) aNil)))))) sNil
abbrev burdTurn : CS := (sSeq (sAsg (gN 8) (cC (.int 0))) (sSeq (sFrz 5) (sSeq burdIf (sSeq (sOwn 5 (cComp [10] (iSeq (cV 5)) (gN 10) (tV (c2 gLt (c2 gIx (cV 10) (cC (.int 0))) (cV 7))) (cLst (aCons (c2 gIx (cV 10) (cC (.int 0))) (aCons (c2 gIx (cV 10) (cC (.int 1))) (aCons (c2 gAdd (c2 gIx (cV 10) (cC (.int 2))) (cV 8)) aNil)))))) (sSeq (sApp (rOwn 5) (cLst (aCons (cV 7) (aCons (c1 gSum (cSl (cV 1) (oSome (cV 7)) (oSome (c2 gAdd (cV 6) (cC (.int 1)))))) (aCons (cC (.int 0)) aNil))))) (sAsg (gN 4) (c2 gAdd (cV 4) (cTup (aCons (cV 8) aNil)))))))))
theorem isplan_shape : F__law_drawn_burden = body 11 3 (sSeq (sAsg (gN 3) (cCall0 (ifN 3 F__law_plan) (aCons (cV 0) (aCons (c1 gLen (cV 1)) (aCons (cV 2) aNil))))) (sSeq (sAsg (gN 4) (cTup aNil)) (sSeq (sOwn 5 (cLst aNil)) (sSeq (sFor (iEnum (cV 3)) (gT [(gN 6), (gN 7)]) burdTurn) (sRet (cTup (aCons (cV 3) (aCons (cV 4) aNil)))))))) := rfl
/-- the raise that is drawn -/
theorem e_burdIf {sz ps : List Int} {P : D} {m h g : Nat} {rs : List PB.R} {x9 x10 : Sl} {M : Mem} (hM : Hand M) (hm : 1 ≤ m) (hb : ∀ q ∈ rs, q.x ≤ S sz q.a q.e ∧ 0 ≤ q.x ∧ S sz q.a q.e ≤ 100000000) :
    ∃ (r : Int) (x9' : Sl) (M' : Mem), burdIf [.sh (.loc 0), .sh (.tup (dI sz)), .sh (.int m), .sh P, .sh (.tup (dI ps)), .sh (.lst (rs.map (rD sz))), .sh (.int h), .sh (.int g), .sh (.int 0), x9, x10] M =
      .ok (.nx, [.sh (.loc 0), .sh (.tup (dI sz)), .sh (.int m), .sh P, .sh (.tup (dI ps)), .sh (.lst (rs.map (rD sz))), .sh (.int h), .sh (.int g), .sh (.int r), x9', x10]) M' ∧ Hand M' ∧ 0 ≤ r ∧ (0 < r → rs.length = m) ∧ ∀ q ∈ rs, q.x + r ≤ S sz q.a q.e := by
  by_cases e : rs.length = m
  · have e' : (rs.length : Int) = (m : Int) := by omega
    have c := compL_map (vs := [10]) (g := gN 10) (f := c2 gSub (c2 gIx (cV 10) (cC (.int 1))) (c2 gIx (cV 10) (cC (.int 2)))) (E := [.sh (.loc 0), .sh (.tup (dI sz)), .sh (.int m), .sh P, .sh (.tup (dI ps)), .sh (.lst (rs.map (rD sz))), .sh (.int h), .sh (.int g), .sh (.int 0), x9, x10]) (M := M)
      (rD sz) (fun q => D.int (S sz q.a q.e - q.x)) rs fun q hq => ⟨_, rfl, by simp [wipe, rD, ixN]⟩
    have c' : rs.map (fun q => D.int (S sz q.a q.e - q.x)) = (rs.map fun q => S sz q.a q.e - q.x).map D.int := by rw [List.map_map]; rfl
    rw [c'] at c
    have ne : rs.map (fun q => S sz q.a q.e - q.x) ≠ [] := fun z => by
      have := congrArg List.length z
      rw [List.length_map, List.length_nil] at this
      omega
    obtain ⟨v, hv⟩ := minL_some ne
    obtain ⟨v1, v2⟩ := minL_spec hv
    have hv' := gMin_lst hv
    obtain ⟨q0, hq0, ev⟩ := List.mem_map.mp v1
    have b0 := hb q0 hq0
    obtain ⟨r1, M1, e1, hM1, a1, b1⟩ := e_draw M (v + 1) hM (by omega) (by omega)
    obtain ⟨r2, M2, e2, hM2, a2, b2⟩ := e_draw M1 4 hM1 (by decide) (by decide)
    have vq : ∀ q ∈ rs, v ≤ S sz q.a q.e - q.x := fun q hq => v2 _ (List.mem_map.mpr ⟨q, hq, rfl⟩)
    have l4 : 4 ≤ sizeMax := by decide
    have pick : r2 = 0 ∨ r2 = 1 ∨ r2 = 2 ∨ r2 = 3 := by omega
    obtain ⟨r, hr, r0, rv⟩ : ∃ r, gIx (.lst [.int 0, .int v, .int r1, .int v]) (.int r2) = some (.int r) ∧ 0 ≤ r ∧ r ≤ v := by
      rcases pick with rfl | rfl | rfl | rfl
      · exact ⟨0, rfl, Int.le_refl _, by omega⟩
      · exact ⟨v, rfl, by omega, Int.le_refl _⟩
      · exact ⟨r1, rfl, by omega, by omega⟩
      · exact ⟨v, rfl, by omega, Int.le_refl _⟩
    refine ⟨r, .sh (.int v), M2, ?_, hM2, r0, fun _ => e, fun q hq => by have := vq q hq; omega⟩
    simp [burdIf, -List.map_map, -gIx, e', c, hv', e1, e2, hr, l4]
  · have e' : ¬ (rs.length : Int) = (m : Int) := by omega
    refine ⟨0, x9, M, ?_, hM, Int.le_refl _, fun z => absurd z (by decide), fun q hq => by have := hb q hq; omega⟩
    simp [burdIf, e']
def nextR (rs : List PB.R) (g h : Nat) (r : Int) : List PB.R := (rs.filter fun q : PB.R => decide (q.a < g)).map (fun q : PB.R => (⟨q.a, q.e, q.x + r⟩ : PB.R)) ++ [⟨g, h, 0⟩]
/-- a turn of the drawn burden -/
theorem e_burdTurn {sz ps : List Int} {P : D} {m h g : Nat} {rs : List PB.R} {x8 x9 x10 : Sl} {M : Mem} (hM : Hand M) (hm : 1 ≤ m) (hb : ∀ q ∈ rs, q.x ≤ S sz q.a q.e ∧ 0 ≤ q.x ∧ S sz q.a q.e ≤ 100000000) (hl : rs.length ≤ 100) (hp : ps.length ≤ 100) :
    ∃ (r : Int) (x9' : Sl) (M' : Mem), burdTurn [.sh (.loc 0), .sh (.tup (dI sz)), .sh (.int m), .sh P, .sh (.tup (dI ps)), .ow (.lst (rs.map (rD sz))), .sh (.int h), .sh (.int g), x8, x9, x10] M =
      .ok (.nx, [.sh (.loc 0), .sh (.tup (dI sz)), .sh (.int m), .sh P, .sh (.tup (dI (ps ++ [r]))), .ow (.lst ((nextR rs g h r).map (rD sz))), .sh (.int h), .sh (.int g), .sh (.int r), x9', x10]) M' ∧ Hand M' ∧ 0 ≤ r ∧ (0 < r → rs.length = m) ∧ ∀ q ∈ rs, q.x + r ≤ S sz q.a q.e := by
  obtain ⟨r, x9', M', e1, hM', r0, r1, r2⟩ := e_burdIf (sz := sz) (ps := ps) (P := P) (h := h) (g := g) (rs := rs) (x9 := x9) (x10 := x10) hM hm hb
  refine ⟨r, x9', M', ?_, hM', r0, r1, r2⟩
  have c := compL_filter (vs := [10]) (g := gN 10) (t := tV (c2 gLt (c2 gIx (cV 10) (cC (.int 0))) (cV 7))) (f := cLst (aCons (c2 gIx (cV 10) (cC (.int 0))) (aCons (c2 gIx (cV 10) (cC (.int 1))) (aCons (c2 gAdd (c2 gIx (cV 10) (cC (.int 2))) (cV 8)) aNil))))
    (E := [.sh (.loc 0), .sh (.tup (dI sz)), .sh (.int m), .sh P, .sh (.tup (dI ps)), .sh (.lst (rs.map (rD sz))), .sh (.int h), .sh (.int g), .sh (.int r), x9', x10]) (M := M')
    (rD sz) (fun q => rD sz ⟨q.a, q.e, q.x + r⟩) (fun q => decide (q.a < g)) rs fun q hq => ⟨_, rfl, by simp [wipe, rD, ixN], fun _ => by simp [wipe, rD, ixN, sizeMax]⟩
  have l1 : (rs.filter fun q => decide (q.a < g)).length ≤ rs.length := List.length_filter_le _ _
  have l2 : ((rs.filter fun q => decide (q.a < g)).map fun q => rD sz ⟨q.a, q.e, q.x + r⟩).length < sizeMax := by rw [List.length_map]; unfold sizeMax; omega
  have l2' : (rs.filter fun q => decide (q.a < g)).length < sizeMax := by unfold sizeMax; omega
  have l3 : 1 ≤ sizeMax := by decide
  have l4 : ps.length + 1 ≤ sizeMax := by unfold sizeMax; omega
  have l5 : 3 ≤ sizeMax := by decide
  have sg := S_gen sz g h
  have t1 : dI ps ++ [D.int r] = dI (ps ++ [r]) := by simp [dI]
  have t2 : ((rs.filter fun q => decide (q.a < g)).map fun q => rD sz ⟨q.a, q.e, q.x + r⟩) ++ [D.lst [.int (g : Int), .int (S sz g h), .int 0]] = (nextR rs g h r).map (rD sz) := by
    rw [nextR, List.map_append, List.map_map]; rfl
  rw [← t1, ← t2]
  simp [-List.map_map, -List.map_append, -gIx, e1, c, l2, l2', l3, l4, l5, sg]
theorem path_at {sz : List Int} {m h : Nat} {st pl : List Nat} {c : Int} (p : Path sz m 0 h st pl c) : ∀ i, i < h → ∃ st' c' a g, Path sz m 0 i st' (pl.take i) c' ∧ pl[i]? = some g ∧ a < m ∧ (st' ++ [i])[a]? = some g := by
  induction p with
  | nil => intro i hi; omega
  | @step h st pl c p a g ha hg ih =>
    intro i hi
    have hl := p.len
    by_cases q : i < h
    · obtain ⟨st', c', a', g', h1, h2, h3, h4⟩ := ih i q
      exact ⟨st', c', a', g', by rw [List.take_append_of_le_length (by omega)]; exact h1, by rw [List.getElem?_append_left (by omega)]; exact h2, h3, h4⟩
    · have : i = h := by omega
      subst this
      exact ⟨st, c, a, g, by rw [List.take_append_of_le_length (by omega), List.take_of_length_le (by omega)]; exact p, by rw [List.getElem?_append_right (by omega), show i - pl.length = 0 by omega]; rfl, ha, hg⟩
theorem after_snoc (b pl : List Nat) (g : Nat) : after b (pl ++ [g]) = (after b pl).filter (· < g) ++ [g] := by simp [after]
theorem nextR_a (rs : List PB.R) (g h : Nat) (r : Int) : (nextR rs g h r).map (·.a) = (rs.map (·.a)).filter (· < g) ++ [g] := by
  rw [nextR, List.map_append, List.map_map, List.filter_map]; rfl
def bState (sz : List Int) (m : Nat) (P : D) (rs : List PB.R) (ps : List Int) (x6 x7 x8 x9 x10 : Sl) : J.Env := [.sh (.loc 0), .sh (.tup (dI sz)), .sh (.int m), .sh P, .sh (.tup (dI ps)), .ow (.lst (rs.map (rD sz))), x6, x7, x8, x9, x10]
theorem S_le {sz : List Int} (hs : Sz sz) {a e : Nat} (h1 : a ≤ e) (h2 : e < sz.length) : S sz a e ≤ 100000000 := by
  have key : ∀ l : List Int, (∀ s ∈ l, s ≤ 1000000) → l.sum ≤ 1000000 * l.length := fun l => by
    induction l with
    | nil => intro _; simp
    | cons x l ih =>
      intro h
      have := ih fun y hy => h y (List.mem_cons_of_mem _ hy)
      have := h x List.mem_cons_self
      rw [List.sum_cons, List.length_cons]; push_cast; omega
  have := key ((sz.drop a).take (e + 1 - a)) fun s q => (hs.2.2 s (List.mem_of_mem_drop (List.mem_of_mem_take q))).2
  have l : ((sz.drop a).take (e + 1 - a)).length ≤ 12 := by rw [List.length_take, List.length_drop]; have := hs.2.1; omega
  unfold PM.S; omega
theorem Sz.pos {sz : List Int} (hs : Sz sz) : ∀ s ∈ sz, 0 ≤ s := fun s q => by have := (hs.2.2 s q).1; omega
theorem bur_len {sz : List Int} {m h : Nat} {rs : List PB.R} {pl : List Nat} {ps : List Int} (b : Bur sz m h rs pl ps) : pl.length = h ∧ ps.length = h ∧ rs.length ≤ h := by
  induction b with
  | nil => simp
  | step p r g h0 hr hb hg ih =>
    obtain ⟨h1, h2, h3⟩ := ih
    rw [List.length_append, List.length_append, List.length_append, List.length_map]
    have := List.length_filter_le (fun q : PB.R => decide (q.a < g)) ‹List PB.R›
    simp; omega
theorem e_drawn_loop {sz : List Int} (hs : Sz sz) {m : Nat} (hm : 1 ≤ m) {st pl : List Nat} {c : Int} (p : Path sz m 0 sz.length st pl c) (P : D) (M : Mem) (hM : Hand M) :
    ∃ rs ps x6 x7 x8 x9 x10 M', forL (gT [gN 6, gN 7]) burdTurn (((List.range pl.length).zip pl).map fun p => D.tup [.int (p.1 : Int), .int (p.2 : Int)]) (bState sz m P [] [] .un .un .un .un .un) M = .ok (.nx, bState sz m P rs ps x6 x7 x8 x9 x10) M' ∧ Hand M' ∧ Bur sz m sz.length rs pl ps := by
  have hl : pl.length = sz.length := by have := p.len; omega
  obtain ⟨E', M', h1, hM', rs, ps, x6, x7, x8, x9, x10, rfl, b, _⟩ := forL_run (g := gT [gN 6, gN 7]) (s := burdTurn) (fun p : Nat × Nat => D.tup [.int (p.1 : Int), .int (p.2 : Int)])
    (fun i E M => Hand M ∧ ∃ rs ps x6 x7 x8 x9 x10, E = bState sz m P rs ps x6 x7 x8 x9 x10 ∧ Bur sz m i rs (pl.take i) ps ∧ rs.map (·.a) = after [] (pl.take i)) ((List.range pl.length).zip pl) 0
    (fun i q E M hq ⟨hM, rs, ps, x6, x7, x8, x9, x10, hE, b, ea⟩ => by
      subst hE
      rw [Nat.zero_add] at b ea ⊢
      have hlt : i < pl.length := by
        have := (List.getElem?_eq_some_iff.mp hq).1
        simpa using this
      rw [List.getElem?_zip_eq_some] at hq
      obtain ⟨q1, q2⟩ := hq
      rw [List.getElem?_range hlt] at q1
      obtain ⟨st', c', a, g, p1, p2, p3, p4⟩ := path_at p i (by omega)
      have eg : q = (i, g) := by
        rw [p2] at q2
        exact Prod.ext (Option.some.inj q1).symm (Option.some.inj q2).symm
      subst eg
      have est : st' = rs.map (·.a) := by rw [ea]; exact p1.planOk.2.symm
      have hg : g ∈ rs.map (·.a) ∨ g = i := by
        rw [← est]
        rcases List.mem_append.mp (List.mem_of_getElem? p4) with z | z
        · exact .inl z
        · exact .inr (List.mem_singleton.mp z)
      have bl := bur_len b
      have l12 := hs.2.1
      have bo := b.borne hs.pos (by omega)
      obtain ⟨r, x9', M', e1, hM', r0, r1, r2⟩ := e_burdTurn (sz := sz) (ps := ps) (P := P) (m := m) (h := i) (g := g) (rs := rs) (x8 := x8) (x9 := x9) (x10 := x10) hM hm
        (fun q hq => by have := bo q hq; have t := b.tile.mem q hq; exact ⟨this.2, this.1, S_le hs t.2.1 (by omega)⟩) (by omega) (by omega)
      have tk : pl.take (i + 1) = pl.take i ++ [g] := by rw [List.take_add_one, p2]; rfl
      refine ⟨_, _, M', rfl, .inl e1, hM', nextR rs g i r, ps ++ [r], _, _, _, _, _, rfl, ?_, ?_⟩
      · rw [tk]; exact .step b r g r0 r1 r2 hg
      · rw [tk, after_snoc, nextR_a, ea]) (bState sz m P [] [] .un .un .un .un .un) M ⟨hM, [], [], _, _, _, _, _, rfl, .nil, rfl⟩
  refine ⟨rs, ps, x6, x7, x8, x9, x10, M', h1, hM', ?_⟩
  have e : 0 + ((List.range pl.length).zip pl).length = sz.length := by simp; omega
  rw [e, List.take_of_length_le (by omega)] at b
  exact b
theorem e_drawn {sz : List Int} (hs : Sz sz) {m : Nat} (hm : 1 ≤ m) (hm2 : m ≤ 100) (M : Mem) (hM : Hand M) : ∃ pl ps rs M', F__law_drawn_burden [.loc 0, .tup (dI sz), .int m] M = .ok (.tup [.tup (dN pl), .tup (dI ps)]) M' ∧ Hand M' ∧ Bur sz m sz.length rs pl ps ∧ ∃ st c, Path sz m 0 sz.length st pl c := by
  have l12 := hs.2.1
  obtain ⟨pl, M1, st, c, e1, hM1, p⟩ := e_law_plan sz sz.length m hm hm2 (by omega) M hM
  obtain ⟨rs, ps, x6, x7, x8, x9, x10, M', e2, hM', b⟩ := e_drawn_loop hs hm p (.tup (dN pl)) M1 hM1
  refine ⟨pl, ps, rs, M', ?_, hM', b, st, c, p⟩
  rw [← pair_enum] at e2
  have l2 : 2 ≤ sizeMax := by decide
  have l0 : 0 ≤ sizeMax := by decide
  rw [isplan_shape]
  simp [bState, e1, l0, l2] at e2 ⊢
  simp [e2, l2]
end K75
namespace K75
open PySem J PM PB
def tD (sz : List Int) (q : PB.R) : D := .tup [.int q.a, .int (S sz q.a q.e), .int q.x]
theorem tile_all {sz : List Int} : ∀ {rs : List PB.R} {lo hi : Nat}, Tile lo rs hi → hi ≤ sz.length → (rs.map fun q : PB.R => S sz q.a q.e).sum = WS sz (fun _ => true) lo (hi - lo)
  | [], lo, hi, h, _ => by
    have : lo = hi := h
    subst this
    rw [Nat.sub_self]; rfl
  | r :: rs, lo, hi, h, l => by
    have l3 := Tile.le h.2.2
    obtain ⟨h1, h2, h3⟩ := h
    rw [List.map_cons, List.sum_cons, tile_all h3 l, h1, S_ws h2 (by omega), show hi - lo = (r.e + 1 - lo) + (hi - (r.e + 1)) by omega, WS_add, show lo + (r.e + 1 - lo) = r.e + 1 by omega]
theorem tile_from {sz : List Int} {g : Nat} : ∀ {rs : List PB.R} {lo hi : Nat}, Tile lo rs hi → hi ≤ sz.length → (g ∈ rs.map (·.a) ∨ g = hi) → ((rs.filter fun q : PB.R => decide (g ≤ q.a)).map fun q : PB.R => S sz q.a q.e).sum = WS sz (fun _ => true) g (hi - g)
  | [], lo, hi, h, l, hg => by
    rcases hg with z | z
    · cases z
    · subst z; rw [Nat.sub_self]; rfl
  | r :: rs, lo, hi, h, l, hg => by
    have l3 := Tile.le h.2.2
    obtain ⟨h1, h2, h3⟩ := h
    by_cases c : g ≤ r.a
    · have e : (r :: rs).filter (fun q : PB.R => decide (g ≤ q.a)) = r :: rs := by
        rw [List.filter_eq_self]
        intro q hq
        rcases List.mem_cons.mp hq with rfl | hq
        · simpa using c
        · have := h3.mem q hq; simp; omega
      rw [e, tile_all (show Tile lo (r :: rs) hi from ⟨h1, h2, h3⟩) l]
      have : g = lo := by
        rcases hg with z | z
        · rw [List.map_cons, List.mem_cons] at z
          rcases z with z | z
          · omega
          · obtain ⟨x, hx, ex⟩ := List.mem_map.mp z
            have := h3.mem x hx; omega
        · omega
      rw [this]
    · rw [List.filter_cons_of_neg (by simpa using c)]
      refine tile_from h3 l ?_
      rcases hg with z | z
      · rw [List.map_cons, List.mem_cons] at z
        rcases z with z | z
        · omega
        · exact .inl z
      · exact .inr z
theorem total_eq {sz : List Int} {rs : List PB.R} {h g : Nat} (t : Tile 0 rs h) (hg : g ∈ rs.map (·.a) ∨ g = h) (l : h < sz.length) : ((rs.filter fun q : PB.R => decide (g ≤ q.a)).map fun q : PB.R => S sz q.a q.e).sum + sz.getD h 0 = S sz g h := by
  have gl : g ≤ h := by
    rcases hg with z | z
    · obtain ⟨x, hx, e⟩ := List.mem_map.mp z
      have := t.mem x hx; omega
    · omega
  rw [tile_from t (by omega) hg, S_ws gl l, show h + 1 - g = (h - g) + 1 by omega, WS_add, show g + (h - g) = h by omega]
  simp [WS]
abbrev bornTurn : CS := (sSeq (sAsg (gN 3) (cComp [7, 8, 9] (iSeq (cV 3)) (gT [(gN 7), (gN 8), (gN 9)]) tYes (cTup (aCons (cV 7) (aCons (cV 8) (aCons (c2 gAdd (cV 9) (c2 gIx (cV 2) (cV 4))) aNil)))))) (sSeq (sIf (tV (c1 gAny (cComp [7, 8, 9] (iSeq (cV 3)) (gT [(gN 7), (gN 8), (gN 9)]) tYes (c2 gGt (cV 9) (cV 8))))) (sRet (cC (.bl false))) sNil) (sSeq (sAsg (gN 6) (c2 gAdd (c1 gSum (cComp [7, 8, 9] (iSeq (cV 3)) (gT [(gN 7), (gN 8), (gN 9)]) (tV (c2 gGe (cV 7) (cV 5))) (cV 8))) (c2 gIx (cV 0) (cV 4)))) (sAsg (gN 3) (c2 gAdd (cComp [10] (iSeq (cV 3)) (gN 10) (tV (c2 gLt (c2 gIx (cV 10) (cC (.int 0))) (cV 5))) (cV 10)) (cLst (aCons (cTup (aCons (cV 5) (aCons (cV 6) (aCons (cC (.int 0)) aNil)))) aNil)))))))
theorem borne_shape : F_are_borne = body 11 3 (sSeq (sAsg (gN 3) (cLst aNil)) (sSeq (sFor (iEnum (cV 1)) (gT [(gN 4), (gN 5)]) bornTurn) (sRet (cC (.bl true))))) := rfl
def upR (r : Int) (q : PB.R) : PB.R := ⟨q.a, q.e, q.x + r⟩
theorem ix_dI {ns : List Int} {h : Nat} {v : Int} (e : ns[h]? = some v) : gIx (.tup (dI ns)) (.int h) = some (.int v) := by
  have l := (List.getElem?_eq_some_iff.mp e).1
  show (ixN (dI ns).length (h : Int)).bind (fun j => (dI ns)[j]?) = _
  rw [ixN_nat _ _ (by simpa [dI] using l)]
  simp [dI, e]
theorem gAny_false (n : Nat) : gAny (.lst (List.replicate n (D.bl false))) = some (.bl false) := by
  have e : List.replicate n (D.bl false) = (List.replicate n false).map D.bl := by simp
  have b := boolsD_map (List.replicate n false)
  rw [← e] at b
  simp [gAny, b]
theorem e_bornTurn {sz ps : List Int} {P : D} {h g : Nat} {r : Int} {rs : List PB.R} {x6 x7 x8 x9 x10 : Sl} {M : Mem} (hr : ps[h]? = some r) (hh : h < sz.length) (t : Tile 0 rs h) (hg : g ∈ rs.map (·.a) ∨ g = h) (hb : ∀ q ∈ rs, q.x + r ≤ S sz q.a q.e) (hl : rs.length ≤ 100) :
    bornTurn [.sh (.tup (dI sz)), .sh P, .sh (.tup (dI ps)), .sh (.lst (rs.map (tD sz))), .sh (.int h), .sh (.int g), x6, x7, x8, x9, x10] M =
      .ok (.nx, [.sh (.tup (dI sz)), .sh P, .sh (.tup (dI ps)), .sh (.lst ((nextR rs g h r).map (tD sz))), .sh (.int h), .sh (.int g), .sh (.int (S sz g h)), x7, x8, x9, x10]) M := by
  have i1 := ix_dI hr
  have i2 : gIx (.tup (dI sz)) (.int h) = some (.int (sz.getD h 0)) := ix_dI (by rw [List.getD_eq_getElem?_getD, List.getElem?_eq_getElem hh]; rfl)
  have c1 := compL_map (vs := [7, 8, 9]) (g := gT [gN 7, gN 8, gN 9]) (f := cTup (aCons (cV 7) (aCons (cV 8) (aCons (c2 gAdd (cV 9) (c2 gIx (cV 2) (cV 4))) aNil)))) (E := [.sh (.tup (dI sz)), .sh P, .sh (.tup (dI ps)), .sh (.lst (rs.map (tD sz))), .sh (.int h), .sh (.int g), x6, x7, x8, x9, x10]) (M := M)
    (tD sz) (fun q => tD sz (upR r q)) rs fun q hq => ⟨_, rfl, by simp [-gIx, wipe, tD, gsN, i1, upR, sizeMax]⟩
  have c2 := compL_map (vs := [7, 8, 9]) (g := gT [gN 7, gN 8, gN 9]) (f := J.c2 gGt (cV 9) (cV 8)) (E := [.sh (.tup (dI sz)), .sh P, .sh (.tup (dI ps)), .sh (.lst (rs.map fun q => tD sz (upR r q))), .sh (.int h), .sh (.int g), x6, x7, x8, x9, x10]) (M := M)
    (fun q => tD sz (upR r q)) (fun q => D.bl false) rs fun q hq => ⟨_, rfl, by have := hb q hq; simp [wipe, tD, gsN, upR]; exact this⟩
  have c3 := compL_filter (vs := [7, 8, 9]) (g := gT [gN 7, gN 8, gN 9]) (t := tV (J.c2 gGe (cV 7) (cV 5))) (f := cV 8) (E := [.sh (.tup (dI sz)), .sh P, .sh (.tup (dI ps)), .sh (.lst (rs.map fun q => tD sz (upR r q))), .sh (.int h), .sh (.int g), x6, x7, x8, x9, x10]) (M := M)
    (fun q => tD sz (upR r q)) (fun q => D.int (S sz q.a q.e)) (fun q => decide (g ≤ q.a)) rs fun q hq => ⟨_, rfl, by simp [wipe, tD, gsN, upR], fun _ => by simp [wipe, tD, gsN, upR]⟩
  have c4 := compL_filter (vs := [10]) (g := gN 10) (t := tV (J.c2 gLt (J.c2 gIx (cV 10) (cC (.int 0))) (cV 5))) (f := cV 10) (E := [.sh (.tup (dI sz)), .sh P, .sh (.tup (dI ps)), .sh (.lst (rs.map fun q => tD sz (upR r q))), .sh (.int h), .sh (.int g), .sh (.int (S sz g h)), x7, x8, x9, x10]) (M := M)
    (fun q => tD sz (upR r q)) (fun q => tD sz (upR r q)) (fun q => decide (q.a < g)) rs fun q hq => ⟨_, rfl, by simp [wipe, tD, upR, ixN], fun _ => by simp [wipe]⟩
  have e2 : rs.map (fun _ => D.bl false) = List.replicate rs.length (D.bl false) := by rw [List.map_const']
  rw [e2] at c2
  have a2 := gAny_false rs.length
  have e3 : (rs.filter fun q : PB.R => decide (g ≤ q.a)).map (fun q => D.int (S sz q.a q.e)) = ((rs.filter fun q : PB.R => decide (g ≤ q.a)).map fun q : PB.R => S sz q.a q.e).map D.int := by rw [List.map_map]; rfl
  rw [e3] at c3
  have a3 := gSum_lst ((rs.filter fun q : PB.R => decide (g ≤ q.a)).map fun q : PB.R => S sz q.a q.e)
  have a4 := total_eq t hg hh
  rw [List.getD_eq_getElem?_getD] at a4 i2
  have l1 : (rs.filter fun q : PB.R => decide (q.a < g)).length ≤ rs.length := List.length_filter_le _ _
  have l2 : (rs.filter fun q : PB.R => decide (q.a < g)).length + 1 ≤ sizeMax := by unfold sizeMax; omega
  have l3 : 1 ≤ sizeMax := by decide
  have l5 : 3 ≤ sizeMax := by decide
  have e5 : ((rs.filter fun q : PB.R => decide (q.a < g)).map fun q => tD sz (upR r q)) ++ [D.tup [.int (g : Int), .int (S sz g h), .int 0]] = (nextR rs g h r).map (tD sz) := by
    rw [nextR, List.map_append, List.map_map]; rfl
  rw [← e5]
  simp [-List.map_map, -List.map_append, -gIx, c1, c2, c3, c4, a2, a3, i2, a4, l2, l3, l5]
end K75
namespace K75
open PySem J PM PB
theorem path_pre {sz : List Int} {m h : Nat} {st pl : List Nat} {c : Int} (p : Path sz m 0 h st pl c) : ∀ i, i ≤ h → ∃ st' c', Path sz m 0 i st' (pl.take i) c' := by
  intro i hi
  by_cases q : i < h
  · obtain ⟨st', c', _, _, h1, _⟩ := path_at p i q
    exact ⟨st', c', h1⟩
  · have : i = h := by omega
    subst this
    exact ⟨st, c, by rw [List.take_of_length_le (by have := p.len; omega)]; exact p⟩
theorem path_wide {sz : List Int} {m h : Nat} {st pl : List Nat} {c : Int} (p : Path sz m 0 h st pl c) : st.length ≤ m := by
  cases p with
  | nil => simp
  | step p a g ha hg => rw [List.length_append, List.length_take, List.length_singleton]; omega
theorem e_check {sz : List Int} (hs : Sz sz) {m : Nat} (hm : 1 ≤ m) (hm2 : m ≤ 30) (M : Mem) : F_check_sizes_and_most [.tup (dI sz), .int m] M = .ok .non M := by
  have h1 := e_check_sizes sz hs M
  have h2 := e_check_most m (by omega) (by omega) M
  simp [F_check_sizes_and_most, h1, h2]
end K75
namespace K75
open PySem J PM PB
theorem nx_eq (rs : List PB.R) (g h : Nat) (r : Int) : nextR rs g h r = nx rs g h r := rfl
theorem e_raised {sz : List Int} {rs : List PB.R} (ne : rs ≠ []) (M : Mem) : ∃ r, F_raised [.lst (rs.map (tD sz))] M = .ok (.tup [.lst (rs.map fun q => tD sz (upR r q)), .int r]) M ∧ (∀ q ∈ rs, q.x + r ≤ S sz q.a q.e) ∧ ∃ q ∈ rs, q.x + r = S sz q.a q.e := by
  obtain ⟨r, hr⟩ := minL_some (ns := rs.map fun q => S sz q.a q.e - q.x) (by simpa using ne)
  obtain ⟨r1, r2⟩ := minL_spec hr
  have m1 := gMin_lst hr
  have c1 := compL_map (vs := [2, 3, 4]) (g := gT [gN 2, gN 3, gN 4]) (f := c2 gSub (cV 3) (cV 4)) (E := [.sh (.lst (rs.map (tD sz))), .un, .un, .un, .un]) (M := M)
    (tD sz) (fun q => D.int (S sz q.a q.e - q.x)) rs fun q hq => ⟨_, rfl, by simp [wipe, tD, gsN]⟩
  have c2 := compL_map (vs := [2, 3, 4]) (g := gT [gN 2, gN 3, gN 4]) (f := cTup (aCons (cV 2) (aCons (cV 3) (aCons (J.c2 gAdd (cV 4) (cV 1)) aNil)))) (E := [.sh (.lst (rs.map (tD sz))), .sh (.int r), .un, .un, .un]) (M := M)
    (tD sz) (fun q => tD sz (upR r q)) rs fun q hq => ⟨_, rfl, by simp [wipe, tD, gsN, upR, sizeMax]⟩
  have e1 : rs.map (fun q => D.int (S sz q.a q.e - q.x)) = (rs.map fun q => S sz q.a q.e - q.x).map D.int := by rw [List.map_map]; rfl
  rw [e1] at c1
  have l2 : 2 ≤ sizeMax := by decide
  refine ⟨r, by simp [F_raised, -List.map_map, c1, c2, m1, l2], fun q hq => ?_, ?_⟩
  · have := r2 _ (List.mem_map_of_mem (f := fun q => S sz q.a q.e - q.x) hq)
    omega
  · obtain ⟨q, hq, e⟩ := List.mem_map.mp r1
    exact ⟨q, hq, by omega⟩
def credIf : CS := sIf (tV (c2 gEq (c1 gLen (cV 4)) (cV 1))) (sSeq (sAsg (gT [(gN 4), (gN 8)]) (cCall0 (ifN 1 F_raised) (aCons (cV 4) aNil))) (sAsg (gN 7) (c1 gMin (cComp [11, 12, 13] (iSeq (cV 4)) (gT [(gN 11), (gN 12), (gN 13)]) (tV (c2 gEq (cV 12) (cV 13))) (cV 11))))) sNil
def credTail : CS := (sSeq (sAsg (gN 9) (c2 gAdd (c1 gSum (cComp [11, 12, 13] (iSeq (cV 4)) (gT [(gN 11), (gN 12), (gN 13)]) (tV (c2 gGe (cV 11) (cV 7))) (cV 12))) (cV 6))) (sSeq (sAsg (gN 4) (c2 gAdd (cComp [10] (iSeq (cV 4)) (gN 10) (tV (c2 gLt (c2 gIx (cV 10) (cC (.int 0))) (cV 7))) (cV 10)) (cLst (aCons (cTup (aCons (cV 7) (aCons (cV 9) (aCons (cC (.int 0)) aNil)))) aNil)))) (sSeq (sApp (rOwn 2) (cV 7)) (sApp (rOwn 3) (cV 8)))))
def credTurn : CS := (sSeq (sAsg (gN 7) (cV 5)) (sSeq (sAsg (gN 8) (cC (.int 0))) (sSeq credIf credTail)))
theorem cred_shape : F_led_by_credits = body 14 2 (sSeq (sOwn 2 (cLst aNil)) (sSeq (sOwn 3 (cLst aNil)) (sSeq (sAsg (gN 4) (cLst aNil)) (sSeq (sFor (iEnum (cV 0)) (gT [(gN 5), (gN 6)]) credTurn) (sRet (cTup (aCons (c1 gTuple (oV 2)) (aCons (c1 gTuple (oV 3)) aNil)))))))) := rfl
theorem e_credIf {sz : List Int} {m h : Nat} {rs : List PB.R} {s0 s2 s3 s6 s9 s10 s11 s12 s13 : Sl} {M : Mem} (hm : 1 ≤ m) (hx : ∀ q ∈ rs, q.x ≤ S sz q.a q.e) : ∃ (g : Nat) (r : Int),
    credIf [s0, .sh (.int m), s2, s3, .sh (.lst (rs.map (tD sz))), .sh (.int h), s6, .sh (.int h), .sh (.int 0), s9, s10, s11, s12, s13] M = .ok (.nx, [s0, .sh (.int m), s2, s3, .sh (.lst (rs.map fun q => tD sz (upR r q))), .sh (.int h), s6, .sh (.int g), .sh (.int r), s9, s10, s11, s12, s13]) M ∧
    ((rs.length = m ∧ 0 ≤ r ∧ (∀ q ∈ rs, q.x + r ≤ S sz q.a q.e) ∧ ∃ q ∈ rs, q.a = g ∧ q.x + r = S sz q.a q.e) ∨ (rs.length ≠ m ∧ g = h ∧ r = 0)) := by
  by_cases c : rs.length = m
  · have ne : rs ≠ [] := fun z => by rw [z] at c; simp at c; omega
    obtain ⟨r, e1, r1, q0, hq0, f0⟩ := e_raised (sz := sz) ne M
    have hr : 0 ≤ r := by have := hx q0 hq0; omega
    obtain ⟨g, hg⟩ := minL_some (ns := (rs.filter fun q : PB.R => decide (S sz q.a q.e = q.x + r)).map fun q : PB.R => (q.a : Int)) (fun z => by
      have : q0 ∈ rs.filter fun q : PB.R => decide (S sz q.a q.e = q.x + r) := List.mem_filter.mpr ⟨hq0, by simp; omega⟩
      have := List.mem_map_of_mem (f := fun q : PB.R => (q.a : Int)) this
      rw [z] at this; cases this)
    obtain ⟨g1, _⟩ := minL_spec hg
    have m1 := gMin_lst hg
    obtain ⟨q, hq, eg⟩ := List.mem_map.mp g1
    obtain ⟨hq, fq⟩ := List.mem_filter.mp hq
    have fq : S sz q.a q.e = q.x + r := by simpa using fq
    have c1 := compL_filter (vs := [11, 12, 13]) (g := gT [gN 11, gN 12, gN 13]) (t := tV (c2 gEq (cV 12) (cV 13))) (f := cV 11) (E := [s0, .sh (.int m), s2, s3, .sh (.lst (rs.map fun q => tD sz (upR r q))), .sh (.int h), s6, .sh (.int h), .sh (.int r), s9, s10, s11, s12, s13]) (M := M)
      (fun q => tD sz (upR r q)) (fun q => D.int q.a) (fun q => decide (S sz q.a q.e = q.x + r)) rs fun q hq => ⟨_, rfl, by simp [wipe, tD, gsN, upR], fun _ => by simp [wipe, tD, gsN, upR]⟩
    have e2 : (rs.filter fun q : PB.R => decide (S sz q.a q.e = q.x + r)).map (fun q => D.int q.a) = ((rs.filter fun q : PB.R => decide (S sz q.a q.e = q.x + r)).map fun q : PB.R => (q.a : Int)).map D.int := by rw [List.map_map]; rfl
    rw [e2] at c1
    refine ⟨q.a, r, ?_, .inl ⟨c, hr, r1, q, hq, rfl, by omega⟩⟩
    rw [eg]
    simp [credIf, -List.map_map, c, e1, gsN, c1, m1]
  · refine ⟨h, 0, ?_, .inr ⟨c, rfl, rfl⟩⟩
    have e0 : rs.map (fun q => tD sz (upR 0 q)) = rs.map (tD sz) := by
      apply List.map_congr_left
      intro q _
      simp [tD, upR]
    rw [e0]
    have c' : ¬ ((rs.length : Int) = m) := by omega
    simp [credIf, -List.map_map, c, c']
theorem e_credTail {sz : List Int} {pl : List Nat} {ps : List Int} {m h g : Nat} {r : Int} {rs : List PB.R} {s0 s1 s9 s10 s11 s12 s13 : Sl} {M : Mem} (hh : h < sz.length) (t : Tile 0 rs h) (hg : g ∈ rs.map (·.a) ∨ g = h) (hl : rs.length ≤ 100) (hp : pl.length ≤ 100) (hp2 : ps.length ≤ 100) :
    credTail [s0, s1, .ow (.lst (dN pl)), .ow (.lst (dI ps)), .sh (.lst (rs.map fun q => tD sz (upR r q))), .sh (.int h), .sh (.int (sz.getD h 0)), .sh (.int g), .sh (.int r), s9, s10, s11, s12, s13] M =
      .ok (.nx, [s0, s1, .ow (.lst (dN (pl ++ [g]))), .ow (.lst (dI (ps ++ [r]))), .sh (.lst ((nx rs g h r).map (tD sz))), .sh (.int h), .sh (.int (sz.getD h 0)), .sh (.int g), .sh (.int r), .sh (.int (S sz g h)), s10, s11, s12, s13]) M := by
  have c3 := compL_filter (vs := [11, 12, 13]) (g := gT [gN 11, gN 12, gN 13]) (t := tV (c2 gGe (cV 11) (cV 7))) (f := cV 12) (E := [s0, s1, .ow (.lst (dN pl)), .ow (.lst (dI ps)), .sh (.lst (rs.map fun q => tD sz (upR r q))), .sh (.int h), .sh (.int (sz.getD h 0)), .sh (.int g), .sh (.int r), s9, s10, s11, s12, s13]) (M := M)
    (fun q => tD sz (upR r q)) (fun q => D.int (S sz q.a q.e)) (fun q => decide (g ≤ q.a)) rs fun q hq => ⟨_, rfl, by simp [wipe, tD, gsN, upR], fun _ => by simp [wipe, tD, gsN, upR]⟩
  have c4 := compL_filter (vs := [10]) (g := gN 10) (t := tV (c2 gLt (c2 gIx (cV 10) (cC (.int 0))) (cV 7))) (f := cV 10) (E := [s0, s1, .ow (.lst (dN pl)), .ow (.lst (dI ps)), .sh (.lst (rs.map fun q => tD sz (upR r q))), .sh (.int h), .sh (.int (sz.getD h 0)), .sh (.int g), .sh (.int r), .sh (.int (S sz g h)), s10, s11, s12, s13]) (M := M)
    (fun q => tD sz (upR r q)) (fun q => tD sz (upR r q)) (fun q => decide (q.a < g)) rs fun q hq => ⟨_, rfl, by simp [wipe, tD, upR, ixN], fun _ => by simp [wipe]⟩
  have e3 : (rs.filter fun q : PB.R => decide (g ≤ q.a)).map (fun q => D.int (S sz q.a q.e)) = ((rs.filter fun q : PB.R => decide (g ≤ q.a)).map fun q : PB.R => S sz q.a q.e).map D.int := by rw [List.map_map]; rfl
  rw [e3] at c3
  have a3 := gSum_lst ((rs.filter fun q : PB.R => decide (g ≤ q.a)).map fun q : PB.R => S sz q.a q.e)
  have a4 := total_eq t hg hh
  rw [List.getD_eq_getElem?_getD] at a4 c3 c4 ⊢
  have l1 : (rs.filter fun q : PB.R => decide (q.a < g)).length ≤ rs.length := List.length_filter_le _ _
  have l2 : (rs.filter fun q : PB.R => decide (q.a < g)).length + 1 ≤ sizeMax := by unfold sizeMax; omega
  have l3 : 1 ≤ sizeMax := by decide
  have l5 : 3 ≤ sizeMax := by decide
  have l6 : pl.length < sizeMax := by unfold sizeMax; omega
  have l7 : ps.length < sizeMax := by unfold sizeMax; omega
  have e5 : ((rs.filter fun q : PB.R => decide (q.a < g)).map fun q => tD sz (upR r q)) ++ [D.tup [.int (g : Int), .int (S sz g h), .int 0]] = (nx rs g h r).map (tD sz) := by
    rw [nx, List.map_append, List.map_map]; rfl
  have e6 : dN pl ++ [D.int g] = dN (pl ++ [g]) := by simp
  have e7 : dI ps ++ [D.int r] = dI (ps ++ [r]) := by simp [dI]
  rw [← e5, ← e6, ← e7]
  simp [credTail, -List.map_map, -List.map_append, -gIx, c3, a3, a4, c4, l2, l3, l5, l6, l7]
/-- the keeper by credits -/
structure Cred (sz : List Int) (m h : Nat) (rs : List PB.R) (pl : List Nat) (ps : List Int) (c : Int) : Prop where
  bur : Bur sz m h rs pl ps
  path : Path sz m 0 h (rs.map (·.a)) pl c
  pays : Pays sz m h rs ps c
theorem Cred.next {sz : List Int} (hs : ∀ s ∈ sz, 0 ≤ s) {m h g : Nat} {rs : List PB.R} {pl : List Nat} {ps : List Int} {c r : Int} (x : Cred sz m h rs pl ps c) (hl : h < sz.length)
    (d : (rs.length = m ∧ 0 ≤ r ∧ (∀ q ∈ rs, q.x + r ≤ S sz q.a q.e) ∧ ∃ q ∈ rs, q.a = g ∧ q.x + r = S sz q.a q.e) ∨ (rs.length ≠ m ∧ g = h ∧ r = 0)) :
    (g ∈ rs.map (·.a) ∨ g = h) ∧ Cred sz m (h + 1) (nx rs g h r) (pl ++ [g]) (ps ++ [r]) (c + S sz g h) := by
  have so := x.path.sorted
  have wd := path_wide x.path
  rw [List.length_map] at wd
  have bo := x.bur.borne hs (by omega)
  have na : (nx rs g h r).map (·.a) = (rs.map (·.a)).filter (· < g) ++ [g] := nextR_a rs g h r
  rcases d with ⟨d1, d2, d3, q, hq, qa, qf⟩ | ⟨d1, rfl, rfl⟩
  · have hg : g ∈ rs.map (·.a) := by rw [← qa]; exact List.mem_map_of_mem (f := fun q : PB.R => q.a) hq
    obtain ⟨a, ha, ea⟩ := List.mem_iff_getElem.mp hg
    have ga : (rs.map (·.a) ++ [h])[a]? = some g := by rw [List.getElem?_append_left ha, List.getElem?_eq_getElem ha, ea]
    refine ⟨.inl hg, .step x.bur r g d2 (fun _ => d1) d3 (.inl hg), ?_, x.pays.join hs x.bur.tile hl d1 d2 (fun q hq => (bo q hq).1) ⟨q, hq, qa, qf⟩⟩
    rw [na, filter_take so.1 so.2 ga]
    exact .step x.path a g (by rw [List.length_map] at ha; omega) ga
  · have ga : (rs.map (·.a) ++ [g])[(rs.map (·.a)).length]? = some g := by rw [List.getElem?_append_right (Nat.le_refl _)]; simp
    refine ⟨.inr rfl, .step x.bur 0 g (Int.le_refl _) (fun z => absurd z (by decide)) (fun q hq => by have := (bo q hq).2; omega) (.inr rfl), ?_, x.pays.alone hs x.bur.tile hl (by omega)⟩
    rw [na, filter_take so.1 so.2 ga]
    exact .step x.path _ g (by rw [List.length_map]; omega) ga
theorem e_led {sz : List Int} (hs : Sz sz) {m : Nat} (hm : 1 ≤ m) (M : Mem) : ∃ pl ps rs c, F_led_by_credits [.tup (dI sz), .int m] M = .ok (.tup [.tup (dN pl), .tup (dI ps)]) M ∧ Cred sz m sz.length rs pl ps c := by
  have l12 := hs.2.1
  obtain ⟨E', M', h1, rfl, rs, pl, ps, c, x5, x6, x7, x8, x9, x10, x11, x12, x13, rfl, x⟩ := forL_run (g := gT [gN 5, gN 6]) (s := credTurn) (fun p : Nat × Int => D.tup [.int (p.1 : Int), .int p.2])
    (fun i E M' => M' = M ∧ ∃ (rs : List PB.R) (pl : List Nat) (ps : List Int) (c : Int) (x5 x6 x7 x8 x9 x10 x11 x12 x13 : Sl), E = [.sh (.tup (dI sz)), .sh (.int m), .ow (.lst (dN pl)), .ow (.lst (dI ps)), .sh (.lst (rs.map (tD sz))), x5, x6, x7, x8, x9, x10, x11, x12, x13] ∧ Cred sz m i rs pl ps c) ((List.range sz.length).zip sz) 0
    (fun i q E M' hq ⟨hM, rs, pl, ps, c, x5, x6, x7, x8, x9, x10, x11, x12, x13, hE, x⟩ => by
      subst hM hE
      rw [Nat.zero_add] at x ⊢
      have hlt : i < sz.length := by
        have := (List.getElem?_eq_some_iff.mp hq).1
        simpa using this
      rw [List.getElem?_zip_eq_some] at hq
      obtain ⟨q1, q2⟩ := hq
      rw [List.getElem?_range hlt] at q1
      have e1 : q = (i, sz.getD i 0) := by
        refine Prod.ext (Option.some.inj q1).symm ?_
        rw [List.getD_eq_getElem?_getD, q2]; rfl
      subst e1
      have bl := bur_len x.bur
      have bo := x.bur.borne hs.pos (by omega)
      obtain ⟨g, r, e2, d⟩ := e_credIf (sz := sz) (m := m) (h := i) (rs := rs) (s0 := .sh (.tup (dI sz))) (s2 := .ow (.lst (dN pl))) (s3 := .ow (.lst (dI ps))) (s6 := .sh (.int (sz.getD i 0))) (s9 := x9) (s10 := x10) (s11 := x11) (s12 := x12) (s13 := x13) (M := M') hm fun q hq => (bo q hq).2
      obtain ⟨hg, y⟩ := x.next hs.pos hlt d
      have e3 := e_credTail (sz := sz) (pl := pl) (ps := ps) (m := m) (r := r) (s0 := .sh (.tup (dI sz))) (s1 := .sh (.int m)) (s9 := x9) (s10 := x10) (s11 := x11) (s12 := x12) (s13 := x13) (M := M') hlt x.bur.tile hg (by omega) (by omega) (by omega)
      refine ⟨[.sh (.tup (dI sz)), .sh (.int m), .ow (.lst (dN pl)), .ow (.lst (dI ps)), .sh (.lst (rs.map (tD sz))), .sh (.int i), .sh (.int (sz.getD i 0)), x7, x8, x9, x10, x11, x12, x13], _, M', rfl, .inl ?_, rfl, _, _, _, _, .sh (.int i), .sh (.int (sz.getD i 0)), .sh (.int g), .sh (.int r), .sh (.int (S sz g i)), x10, x11, x12, x13, rfl, y⟩
      rw [credTurn]
      simp only [sSeq, sAsg, cV, cC, gN, R.st, List.getElem?_cons_succ, List.getElem?_cons_zero, List.set_cons_succ, List.set_cons_zero]
      rw [e2]
      exact e3)
    [.sh (.tup (dI sz)), .sh (.int m), .ow (.lst (dN [])), .ow (.lst (dI [])), .sh (.lst (([] : List PB.R).map (tD sz))), .un, .un, .un, .un, .un, .un, .un, .un, .un] M ⟨rfl, [], [], [], 0, _, _, _, _, _, _, _, _, _, rfl, .nil, .nil, Pays.nil⟩
  have en : 0 + ((List.range sz.length).zip sz).length = sz.length := by simp
  rw [en] at x
  have pe : pairUp (upFrom 0 (dI sz).length) (dI sz) = ((List.range sz.length).zip sz).map fun p => D.tup [.int (p.1 : Int), .int p.2] := by
    rw [List.length_map, upFrom0]
    exact pairUp_map _ _ _ _
  rw [← pe] at h1
  refine ⟨pl, ps, rs, c, ?_, x⟩
  have l0 : 0 ≤ sizeMax := by decide
  have l2 : 2 ≤ sizeMax := by decide
  rw [cred_shape]
  simp at h1
  simp [l0, l2, h1]
theorem e_by_credits {sz : List Int} (hs : Sz sz) {m : Nat} (hm : 1 ≤ m) (hm2 : m ≤ 30) (M : Mem) : ∃ pl ps rs c, F_by_credits [.tup (dI sz), .int m] M = .ok (.tup (dN pl)) M ∧ F_raises [.tup (dI sz), .int m] M = .ok (.tup (dI ps)) M ∧ Cred sz m sz.length rs pl ps c := by
  obtain ⟨pl, ps, rs, c, e, x⟩ := e_led hs hm M
  have ck := e_check hs hm hm2 M
  refine ⟨pl, ps, rs, c, ?_, ?_, x⟩
  · simp [F_by_credits, ck, e, ixN]
  · simp [F_raises, ck, e, ixN]
end K75
namespace K75
open PySem J PM PB
/-! ## what a thing may be -/
def seen (d : D) : Bool := (tyD d).isSome
def A0 (d : D) : Prop := seen d = true ∧ ∀ i, d = .int i → i ≤ 1000000000000000000000000000000000000000000000000
def A1 (d : D) : Prop := seen d = true ∧ ∀ ds, d = .tup ds → ds.length ≤ 100 ∧ ∀ y ∈ ds, A0 y
def A2 (d : D) : Prop := seen d = true ∧ ∀ ds, d = .tup ds → ds.length ≤ 100 ∧ ∀ y ∈ ds, A1 y
def isInt : D → Bool
  | .int _ => true
  | _ => false
def isTup : D → Bool
  | .tup _ => true
  | _ => false
def wi (a c : Int) : D → Bool
  | .int i => decide (a ≤ i) && decide (i ≤ c)
  | _ => false
theorem ty_tup {d : D} (h : seen d = true) : gIsI "tuple" d = some (.bl (isTup d)) := by
  cases d <;> first | (cases h; done) | rfl
theorem view_seen {d : D} (h : seen d = true) (M : Mem) : view M d = d := by
  cases d <;> first | (cases h; done) | rfl
theorem e_int_any {d : D} (h : seen d = true) (M : Mem) : F_is_integer [d] M = .ok (.bl (isInt d)) M := by
  cases d <;> first | (cases h; done) | simp [F_is_integer, gIsI, isI, tyD, subTy, isInt]
theorem e_within_any {d : D} (h : seen d = true) (a c : Int) (M : Mem) : F_is_within [d, .int a, .int c] M = .ok (.bl (wi a c d)) M := by
  have e := e_int_any h M
  cases d <;> first | (cases h; done) | (simp [F_is_within, e, isInt, wi]; done) | skip
  rename_i i
  by_cases q : a ≤ i <;> by_cases q2 : i ≤ c <;> simp [F_is_within, e, isInt, wi, q, q2]
theorem e_whole_any {d : D} (h : seen d = true) (a c : Int) (M : Mem) : F__law_whole [d, .int a, .int c] M = .ok (.bl (wi a c d)) M := by
  cases d <;> first | (cases h; done) | (simp [F__law_whole, gIsI, isI, tyD, subTy, wi]; done) | skip
  rename_i i
  by_cases q : a ≤ i <;> by_cases q2 : i ≤ c <;> simp [F__law_whole, wi, q, q2]
theorem dN_inj {a b : List Nat} (h : dN a = dN b) : a = b := (List.map_inj_right (fun x y e => by injection e with e; exact Int.ofNat.inj e)).mp h
theorem dI_inj {a b : List Int} (h : dI a = dI b) : a = b := (List.map_inj_right (fun x y e => by injection e)).mp h
theorem pair_any (ds : List D) : pairUp (upFrom 0 ds.length) ds = ((List.range ds.length).zip ds).map fun p : Nat × D => D.tup [.int (p.1 : Int), p.2] := by
  have := pairUp_map (fun n : Nat => D.int (n : Int)) (fun d : D => d) (List.range ds.length) ds
  rw [List.map_id'] at this
  rw [upFrom0, this]
/-! ## is it a plan -/
def IsPl (n : Nat) (d : D) (pl : List Nat) : Prop := d = .tup (dN pl) ∧ pl.length = n ∧ PlanOk 0 [] pl
def pTurn : CS := sSeq (sIf (tOr (tNot (tV (cCall0 (ifN 3 F_is_within) (aCons (cV 4) (aCons (cC (.int 0)) (aCons (cV 3) aNil)))))) (tAnd (tV (c2 gNe (cV 4) (cV 3))) (tV (c2 gNotIn (cV 4) (cV 2))))) (sRet (cC (.bl false))) sNil) (sAsg (gN 2) (cCall0 (ifN 2 F_begins_next) (aCons (cV 2) (aCons (cV 4) aNil))))
theorem pl_shape : F_is_plan_of = body 5 2 (sSeq (sIf (tOr (tNot (tV (c1 (gIsI "tuple") (cV 1)))) (tV (c2 gNe (c1 gLen (cV 1)) (cV 0)))) (sRet (cC (.bl false))) sNil) (sSeq (sAsg (gN 2) (cTup aNil)) (sSeq (sFor (iEnum (cV 1)) (gT [(gN 3), (gN 4)]) pTurn) (sRet (cC (.bl true)))))) := rfl
theorem zip_at {ds : List D} {i : Nat} {q : Nat × D} (h : ((List.range ds.length).zip ds)[i]? = some q) : i < ds.length ∧ q.1 = i ∧ ds[i]? = some q.2 := by
  have hlt : i < ds.length := by
    have := (List.getElem?_eq_some_iff.mp h).1
    simpa using this
  rw [List.getElem?_zip_eq_some] at h
  obtain ⟨q1, q2⟩ := h
  rw [List.getElem?_range hlt] at q1
  exact ⟨hlt, (Option.some.inj q1).symm, q2⟩
theorem planOk_len {h : Nat} {b pl : List Nat} (p : PlanOk h b pl) : True := True.intro
theorem plan_more {pl : List Nat} {g : Nat} (ok : PlanOk 0 [] pl) (gl : g ≤ pl.length) (gm : g = pl.length ∨ g ∈ after [] pl) : PlanOk 0 [] (pl ++ [g]) := ok.snoc g (by omega) (by rcases gm with z | z; exact .inl (by omega); exact .inr z)
/-- the pass of a plan's check, for either way to write it -/
theorem plan_bad {ds : List D} {pl : List Nat} {i : Nat} {d : D} (hd : ds[i]? = some d) (tk : ds.take i = dN pl) (hl : pl.length = i) (no : ∀ g : Nat, d = .int g → g ≤ i → (g = i ∨ g ∈ after [] pl) → False) : ¬ ∃ pl', ds = dN pl' ∧ PlanOk 0 [] pl' := by
  rintro ⟨pl', rfl, ok⟩
  have e : pl'.take i = pl := by
    refine dN_inj ?_
    rw [← tk]; exact List.map_take
  rw [List.getElem?_map] at hd
  obtain ⟨g, hg, rfl⟩ := Option.map_eq_some_iff.mp hd
  have := planOk_iff.mp ok i g hg
  rw [e] at this
  exact no g rfl (by omega) (by simpa using this.2)
theorem e_is_plan_any {n : Nat} {d : D} (h : A1 d) (hn : n ≤ 100) (M : Mem) : ∃ b, F_is_plan_of [.int n, d] M = .ok (.bl b) M ∧ (b = true ↔ ∃ pl, IsPl n d pl) := by
  have ty := ty_tup h.1
  have vw := view_seen h.1 M
  rw [pl_shape]
  cases ht : isTup d with
  | false =>
    rw [ht] at ty
    refine ⟨false, by simp [vw, ty], ⟨fun q => (nomatch q), fun ⟨pl, e, _⟩ => by rw [e] at ht; cases ht⟩⟩
  | true =>
    rw [ht] at ty
    obtain ⟨ds, rfl⟩ : ∃ ds, d = .tup ds := by cases d <;> first | (cases ht; done) | exact ⟨_, rfl⟩
    obtain ⟨hl, hy⟩ := h.2 ds rfl
    by_cases ln : ds.length = n
    · subst ln
      have go := forL_chk (g := gT [gN 3, gN 4]) (s := pTurn) (M := M) (fun p : Nat × D => D.tup [.int (p.1 : Int), p.2]) (.bl false) (¬ ∃ pl, ds = dN pl ∧ PlanOk 0 [] pl)
        (fun i E => ∃ pl, pl.length = i ∧ ds.take i = dN pl ∧ PlanOk 0 [] pl ∧ ∃ x y, E = [.sh (.int ds.length), .sh (.tup ds), .sh (.tup (dN (after [] pl))), x, y]) ((List.range ds.length).zip ds) 0
        (fun i q E hq ⟨pl, e1, e2, ok, x, y, hE⟩ => by
          subst hE
          rw [Nat.zero_add] at e1 e2
          obtain ⟨hlt, q1, q2⟩ := zip_at hq
          obtain ⟨qi, qd⟩ := q
          dsimp only at q1 q2
          subst q1
          have sn := (hy qd (List.mem_of_getElem? q2)).1
          have ew := e_within_any sn 0 (qi : Int) M
          have la := after_len pl []
          refine ⟨[.sh (.int ds.length), .sh (.tup ds), .sh (.tup (dN (after [] pl))), .sh (.int qi), .sh qd], ?_⟩
          by_cases w : ∃ g : Nat, qd = .int g ∧ g ≤ qi ∧ (g = qi ∨ g ∈ after [] pl)
          · obtain ⟨g, rfl, g1, g2⟩ := w
            refine ⟨[.sh (.int ds.length), .sh (.tup ds), .sh (.tup (dN (after [] (pl ++ [g])))), .sh (.int qi), .sh (.int g)], by simp [gsN], .inl ⟨?_, pl ++ [g], by simp [e1], ?_, plan_more ok (by omega) (by rw [e1]; exact g2), _, _, rfl⟩⟩
            · have hb := e_begins_next (after [] pl) g M (by simp at la; omega)
              have w1 : wi 0 (qi : Int) (.int g) = true := by simp [wi]; omega
              rw [w1] at ew
              rw [show after [] (pl ++ [g]) = (after [] pl).filter (· < g) ++ [g] from after_snoc _ _ _]
              by_cases q3 : g = qi
              · subst q3; simp [pTurn, ew, hb]
              · have q4 : ¬ ((g : Int) = (qi : Int)) := by omega
                have q5 : g ∈ after [] pl := by rcases g2 with q | q; exact (q3 q).elim; exact q
                simp [pTurn, ew, hb, q3, q4, q5, any_dN]
            · rw [Nat.zero_add, List.take_add_one, q2, e2]; simp
          · refine ⟨[.sh (.int ds.length), .sh (.tup ds), .sh (.tup (dN (after [] pl))), .sh (.int qi), .sh qd], by simp [gsN], .inr ⟨?_, plan_bad q2 e2 e1 fun g z1 z2 z3 => w ⟨g, z1, z2, z3⟩⟩⟩
            cases hw : wi 0 (qi : Int) qd with
            | false => rw [hw] at ew; simp [pTurn, ew]
            | true =>
              rw [hw] at ew
              obtain ⟨v, rfl⟩ : ∃ v, qd = .int v := by cases qd <;> first | (cases hw; done) | exact ⟨_, rfl⟩
              have hv : 0 ≤ v ∧ v ≤ qi := by simpa [wi] using hw
              obtain ⟨g, rfl⟩ : ∃ g : Nat, v = g := ⟨v.toNat, by omega⟩
              have n1 : ¬ g = qi := fun z => w ⟨g, rfl, by omega, .inl z⟩
              have n2 : ¬ g ∈ after [] pl := fun z => w ⟨g, rfl, by omega, .inr z⟩
              have n3 : ¬ ((g : Int) = (qi : Int)) := by omega
              simp [pTurn, ew, n1, n2, n3, any_dN])
        [.sh (.int ds.length), .sh (.tup ds), .sh (.tup []), .un, .un] ⟨[], rfl, by simp, True.intro, _, _, rfl⟩
      rw [← pair_any] at go
      have l0 : 0 ≤ sizeMax := by decide
      rcases go with ⟨E', g1, pl, p1, p2, p3, _⟩ | ⟨E', g1, bad⟩
      · refine ⟨true, by simp [ty, l0, g1], ⟨fun _ => ⟨pl, ?_, ?_, p3⟩, fun _ => rfl⟩⟩
        · rw [List.take_of_length_le (by simp)] at p2; rw [p2]
        · simpa using p1
      · exact ⟨false, by simp [ty, l0, g1], ⟨fun q => (nomatch q), fun ⟨pl, e, _, ok⟩ => (bad ⟨pl, by injection e, ok⟩).elim⟩⟩
    · have ln' : ¬ ((ds.length : Int) = n) := by omega
      refine ⟨false, by simp [ty, ln, ln'], ⟨fun q => (nomatch q), fun ⟨pl, e, l, _⟩ => ?_⟩⟩
      injection e with e
      rw [e, List.length_map] at ln
      exact (ln l).elim
/-- the law's own look -/
def qTurn : CS := sSeq (sIf (tOr (tNot (tV (cCall0 (ifN 3 F__law_whole) (aCons (cV 4) (aCons (cC (.int 0)) (aCons (cV 3) aNil)))))) (tV (c2 gNotIn (cV 4) (c2 gAdd (cV 2) (cTup (aCons (cV 3) aNil)))))) (sRet (cC (.bl false))) sNil) (sAsg (gN 2) (c2 gAdd (c1 gTuple (cComp [5] (iSeq (cV 2)) (gN 5) (tV (c2 gLt (cV 5) (cV 4))) (cV 5))) (cTup (aCons (cV 4) aNil))))
theorem ql_shape : F__law_is_plan = body 6 2 (sSeq (sIf (tOr (tNot (tV (c1 (gIsI "tuple") (cV 1)))) (tV (c2 gNe (c1 gLen (cV 1)) (cV 0)))) (sRet (cC (.bl false))) sNil) (sSeq (sAsg (gN 2) (cTup aNil)) (sSeq (sFor (iEnum (cV 1)) (gT [(gN 3), (gN 4)]) qTurn) (sRet (cC (.bl true)))))) := rfl
theorem e_law_is_plan_any {n : Nat} {d : D} (h : A1 d) (hn : n ≤ 100) (M : Mem) : ∃ b, F__law_is_plan [.int n, d] M = .ok (.bl b) M ∧ (b = true ↔ ∃ pl, IsPl n d pl) := by
  have ty := ty_tup h.1
  have vw := view_seen h.1 M
  rw [ql_shape]
  cases ht : isTup d with
  | false =>
    rw [ht] at ty
    refine ⟨false, by simp [vw, ty], ⟨fun q => (nomatch q), fun ⟨pl, e, _⟩ => by rw [e] at ht; cases ht⟩⟩
  | true =>
    rw [ht] at ty
    obtain ⟨ds, rfl⟩ : ∃ ds, d = .tup ds := by cases d <;> first | (cases ht; done) | exact ⟨_, rfl⟩
    obtain ⟨hl, hy⟩ := h.2 ds rfl
    by_cases ln : ds.length = n
    · subst ln
      have go := forL_chk (g := gT [gN 3, gN 4]) (s := qTurn) (M := M) (fun p : Nat × D => D.tup [.int (p.1 : Int), p.2]) (.bl false) (¬ ∃ pl, ds = dN pl ∧ PlanOk 0 [] pl)
        (fun i E => ∃ pl, pl.length = i ∧ ds.take i = dN pl ∧ PlanOk 0 [] pl ∧ ∃ x y z, E = [.sh (.int ds.length), .sh (.tup ds), .sh (.tup (dN (after [] pl))), x, y, z]) ((List.range ds.length).zip ds) 0
        (fun i q E hq ⟨pl, e1, e2, ok, x, y, z, hE⟩ => by
          subst hE
          rw [Nat.zero_add] at e1 e2
          obtain ⟨hlt, q1, q2⟩ := zip_at hq
          obtain ⟨qi, qd⟩ := q
          dsimp only at q1 q2
          subst q1
          have sn := (hy qd (List.mem_of_getElem? q2)).1
          have ew := e_whole_any sn 0 (qi : Int) M
          have la := after_len pl []
          have l1 : 1 ≤ sizeMax := by decide
          have l2 : (after [] pl).length + 1 ≤ sizeMax := by simp at la; unfold sizeMax; omega
          refine ⟨[.sh (.int ds.length), .sh (.tup ds), .sh (.tup (dN (after [] pl))), .sh (.int qi), .sh qd, z], ?_⟩
          by_cases w : ∃ g : Nat, qd = .int g ∧ g ≤ qi ∧ (g = qi ∨ g ∈ after [] pl)
          · obtain ⟨g, rfl, g1, g2⟩ := w
            refine ⟨[.sh (.int ds.length), .sh (.tup ds), .sh (.tup (dN (after [] (pl ++ [g])))), .sh (.int qi), .sh (.int g), z], by simp [gsN], .inl ⟨?_, pl ++ [g], by simp [e1], ?_, plan_more ok (by omega) (by rw [e1]; exact g2), _, _, _, rfl⟩⟩
            · have hc := compL_filter (vs := [5]) (g := gN 5) (t := tV (c2 gLt (cV 5) (cV 4))) (f := cV 5) (E := [.sh (.int ds.length), .sh (.tup ds), .sh (.tup (dN (after [] pl))), .sh (.int qi), .sh (.int g), z]) (M := M) (fun n : Nat => D.int (n : Int)) (fun n : Nat => D.int (n : Int)) (fun n => decide (n < g)) (after [] pl) fun x hx => ⟨_, rfl, by simp [wipe], fun _ => by simp [wipe]⟩
              have h2 : ((after [] pl).filter fun n => decide (n < g)).length ≤ (after [] pl).length := List.length_filter_le _ _
              have h3 : ((after [] pl).filter fun n => decide (n < g)).length + 1 ≤ sizeMax := by omega
              have w1 : wi 0 (qi : Int) (.int g) = true := by simp [wi]; omega
              rw [w1] at ew
              have nin : gNotIn (.int g) (.tup (dN (after [] pl) ++ [D.int qi])) = some (.bl false) := by
                rw [dN_snoc, any_dN]
                have : g ∈ after [] pl ++ [qi] := by rcases g2 with q | q; simp [q]; simp [q]
                simp [this]
              rw [show after [] (pl ++ [g]) = (after [] pl).filter (· < g) ++ [g] from after_snoc _ _ _]
              simp [qTurn, ew, l1, l2, nin, hc, h3]
            · rw [Nat.zero_add, List.take_add_one, q2, e2]; simp
          · refine ⟨[.sh (.int ds.length), .sh (.tup ds), .sh (.tup (dN (after [] pl))), .sh (.int qi), .sh qd, z], by simp [gsN], .inr ⟨?_, plan_bad q2 e2 e1 fun g z1 z2 z3 => w ⟨g, z1, z2, z3⟩⟩⟩
            cases hw : wi 0 (qi : Int) qd with
            | false => rw [hw] at ew; simp [qTurn, ew]
            | true =>
              rw [hw] at ew
              obtain ⟨v, rfl⟩ : ∃ v, qd = .int v := by cases qd <;> first | (cases hw; done) | exact ⟨_, rfl⟩
              have hv : 0 ≤ v ∧ v ≤ qi := by simpa [wi] using hw
              obtain ⟨g, rfl⟩ : ∃ g : Nat, v = g := ⟨v.toNat, by omega⟩
              have n1 : ¬ g = qi := fun z => w ⟨g, rfl, by omega, .inl z⟩
              have n2 : ¬ g ∈ after [] pl := fun z => w ⟨g, rfl, by omega, .inr z⟩
              have nin : gNotIn (.int g) (.tup (dN (after [] pl) ++ [D.int qi])) = some (.bl true) := by
                rw [dN_snoc, any_dN]
                simp [n1, n2]
              simp [qTurn, ew, l1, l2, nin])
        [.sh (.int ds.length), .sh (.tup ds), .sh (.tup []), .un, .un, .un] ⟨[], rfl, by simp, True.intro, _, _, _, rfl⟩
      rw [← pair_any] at go
      have l0 : 0 ≤ sizeMax := by decide
      rcases go with ⟨E', g1, pl, p1, p2, p3, _⟩ | ⟨E', g1, bad⟩
      · refine ⟨true, by simp [ty, l0, g1], ⟨fun _ => ⟨pl, ?_, ?_, p3⟩, fun _ => rfl⟩⟩
        · rw [List.take_of_length_le (by simp)] at p2; rw [p2]
        · simpa using p1
      · exact ⟨false, by simp [ty, l0, g1], ⟨fun q => (nomatch q), fun ⟨pl, e, _, ok⟩ => (bad ⟨pl, by injection e, ok⟩).elim⟩⟩
    · have ln' : ¬ ((ds.length : Int) = n) := by omega
      refine ⟨false, by simp [ty, ln, ln'], ⟨fun q => (nomatch q), fun ⟨pl, e, l, _⟩ => ?_⟩⟩
      injection e with e
      rw [e, List.length_map] at ln
      exact (ln l).elim
end K75
namespace K75
open PySem J PM PB
def shelf (pl : List Nat) (i : Nat) : D := .tup (dN (after [] (pl.take i)))
abbrev shelves (pl : List Nat) : List D := (List.range pl.length).map fun i => shelf pl (i + 1)
theorem shelf_len (pl : List Nat) (i : Nat) (hl : pl.length ≤ 100) : (after [] (pl.take i)).length ≤ 100 := by
  have := after_len (pl.take i) []
  rw [List.length_take] at this
  simp at this; omega
theorem after_next {pl : List Nat} {i q : Nat} (hq : pl[i]? = some q) : after [] (pl.take (i + 1)) = (after [] (pl.take i)).filter (· < q) ++ [q] := by
  rw [List.take_add_one, hq]; exact after_snoc _ _ _
theorem ix_lst {ds : List D} {h : Nat} {v : D} (e : ds[h]? = some v) : gIx (.lst ds) (.int h) = some v := by
  have l := (List.getElem?_eq_some_iff.mp e).1
  show (ixN ds.length (h : Int)).bind (fun j => ds[j]?) = _
  rw [ixN_nat _ _ l]
  simpa using e
theorem ix_lastL {ds : List D} {d : D} : gIx (.lst (ds ++ [d])) (.int (-1)) = some d := by
  show (ixN (ds ++ [d]).length (-1)).bind (fun j => (ds ++ [d])[j]?) = _
  have : ixN (ds ++ [d]).length (-1) = some ds.length := by
    unfold ixN
    rw [if_neg (by decide), if_pos (by rw [List.length_append]; simp; omega)]
    congr 1
    rw [List.length_append]; simp; omega
  rw [this]
  simp
abbrev behTurn : CS := sSeq (sAsg (gN 2) (cCall0 (ifN 2 F_begins_next) (aCons (cV 2) (aCons (cV 3) aNil)))) (sApp (rOwn 1) (cV 2))
theorem e_behind {pl : List Nat} (hl : pl.length ≤ 100) (M : Mem) : F_begins_behind [.tup (dN pl)] M = .ok (.lst (shelves pl)) M := by
  obtain ⟨E', M', h1, h2, x3, hE⟩ := forL_run (g := gN 3) (s := behTurn) (fun n : Nat => D.int (n : Int))
    (fun i E M' => M' = M ∧ ∃ x3, E = [.sh (.tup (dN pl)), .ow (.lst ((List.range i).map fun i => shelf pl (i + 1))), .sh (shelf pl i), x3]) pl 0
    (fun i q E M' hq ⟨hM, x3, hE⟩ => by
      subst hM hE
      rw [Nat.zero_add]
      have hlt : i < pl.length := (List.getElem?_eq_some_iff.mp hq).1
      have e := e_begins_next (after [] (pl.take i)) q M' (shelf_len pl i hl)
      rw [← after_next hq] at e
      have l1 : i < sizeMax := by unfold sizeMax; omega
      refine ⟨_, [.sh (.tup (dN pl)), .ow (.lst ((List.range (i + 1)).map fun i => shelf pl (i + 1))), .sh (shelf pl (i + 1)), .sh (.int q)], M', rfl, .inl ?_, rfl, _, rfl⟩
      rw [List.range_succ, List.map_append]
      simp [shelf, e, l1]) [.sh (.tup (dN pl)), .ow (.lst []), .sh (.tup []), .un] M ⟨rfl, _, rfl⟩
  subst h2 hE
  have l0 : 0 ≤ sizeMax := by decide
  simp at h1
  simp [F_begins_behind, h1, l0]
abbrev lbegTurn : CS := sSeq (sAsg (gN 4) (cIf (tV (c2 gGt (cV 2) (cC (.int 0)))) (c2 gIx (oV 1) (c1 gNeg (cC (.int 1)))) (cTup aNil))) (sApp (rOwn 1) (c2 gAdd (c1 gTuple (cComp [5] (iSeq (cV 4)) (gN 5) (tV (c2 gLt (cV 5) (cV 3))) (cV 5))) (cTup (aCons (cV 3) aNil))))
theorem e_law_begins {pl : List Nat} (hl : pl.length ≤ 100) (M : Mem) : F__law_begins [.tup (dN pl)] M = .ok (.lst (shelves pl)) M := by
  obtain ⟨E', M', h1, h2, x2, x3, x4, x5, hE⟩ := forL_run (g := gT [gN 2, gN 3]) (s := lbegTurn) (fun p : Nat × Nat => D.tup [.int (p.1 : Int), .int (p.2 : Int)])
    (fun i E M' => M' = M ∧ ∃ x2 x3 x4 x5, E = [.sh (.tup (dN pl)), .ow (.lst ((List.range i).map fun i => shelf pl (i + 1))), x2, x3, x4, x5]) ((List.range pl.length).zip pl) 0
    (fun i q E M' hq ⟨hM, x2, x3, x4, x5, hE⟩ => by
      subst hM hE
      rw [Nat.zero_add]
      have hlt : i < pl.length := by
        have := (List.getElem?_eq_some_iff.mp hq).1
        simpa using this
      rw [List.getElem?_zip_eq_some] at hq
      obtain ⟨q1, q2⟩ := hq
      rw [List.getElem?_range hlt] at q1
      obtain ⟨qa, g⟩ := q
      have q1 : i = qa := Option.some.inj q1
      have q2 : pl[i]? = some g := q2
      subst q1
      have l1 : i < sizeMax := by unfold sizeMax; omega
      have l2 : 1 ≤ sizeMax := by decide
      have l0 : 0 ≤ sizeMax := by decide
      have sl := shelf_len pl i hl
      have hc := compL_filter (vs := [5]) (g := gN 5) (t := tV (c2 gLt (cV 5) (cV 3))) (f := cV 5) (E := [.sh (.tup (dN pl)), .ow (.lst ((List.range i).map fun i => shelf pl (i + 1))), .sh (.int i), .sh (.int g), .sh (shelf pl i), x5]) (M := M') (fun n : Nat => D.int (n : Int)) (fun n : Nat => D.int (n : Int)) (fun n => decide (n < g)) (after [] (pl.take i)) fun x hx => ⟨_, rfl, by simp [wipe], fun _ => by simp [wipe]⟩
      have h2 : ((after [] (pl.take i)).filter fun n => decide (n < g)).length ≤ (after [] (pl.take i)).length := List.length_filter_le _ _
      have h3 : ((after [] (pl.take i)).filter fun n => decide (n < g)).length + 1 ≤ sizeMax := by unfold sizeMax; omega
      have an := after_next q2
      refine ⟨_, [.sh (.tup (dN pl)), .ow (.lst ((List.range (i + 1)).map fun i => shelf pl (i + 1))), .sh (.int i), .sh (.int g), .sh (shelf pl i), x5], M', rfl, .inl ?_, rfl, _, _, _, _, rfl⟩
      have f1 : sAsg (gN 4) (cIf (tV (c2 gGt (cV 2) (cC (.int 0)))) (c2 gIx (oV 1) (c1 gNeg (cC (.int 1)))) (cTup aNil)) [.sh (.tup (dN pl)), .ow (.lst ((List.range i).map fun i => shelf pl (i + 1))), .sh (.int i), .sh (.int g), x4, x5] M' = .ok (.nx, [.sh (.tup (dN pl)), .ow (.lst ((List.range i).map fun i => shelf pl (i + 1))), .sh (.int i), .sh (.int g), .sh (shelf pl i), x5]) M' := by
        clear hc
        cases i with
        | zero => simp [shelf, after, l0]
        | succ j =>
          have e1 : (List.range (j + 1)).map (fun i => shelf pl (i + 1)) = (List.range j).map (fun i => shelf pl (i + 1)) ++ [shelf pl (j + 1)] := by rw [List.range_succ, List.map_append]; rfl
          have ix : gIx (.lst ((List.range (j + 1)).map fun i => shelf pl (i + 1))) (.int (-1)) = some (shelf pl (j + 1)) := by rw [e1]; exact ix_lastL
          have j0 : (0 : Int) < (j : Int) + 1 := by omega
          simp [-gIx, gNeg, ix, j0]
      show lbegTurn [.sh (.tup (dN pl)), .ow (.lst ((List.range i).map fun i => shelf pl (i + 1))), .sh (.int i), .sh (.int g), x4, x5] M' = _
      rw [show lbegTurn = sSeq (sAsg (gN 4) (cIf (tV (c2 gGt (cV 2) (cC (.int 0)))) (c2 gIx (oV 1) (c1 gNeg (cC (.int 1)))) (cTup aNil))) (sApp (rOwn 1) (c2 gAdd (c1 gTuple (cComp [5] (iSeq (cV 4)) (gN 5) (tV (c2 gLt (cV 5) (cV 3))) (cV 5))) (cTup (aCons (cV 3) aNil)))) from rfl, sSeq, f1]
      rw [List.range_succ, List.map_append]
      simp only [shelf] at hc ⊢
      simp [l2, hc, an, h3, l1])
    [.sh (.tup (dN pl)), .ow (.lst []), .un, .un, .un, .un] M ⟨rfl, _, _, _, _, rfl⟩
  subst h2 hE
  rw [← pair_enum] at h1
  have en : 0 + ((List.range pl.length).zip pl).length = pl.length := by simp
  rw [en] at h1
  have l0 : 0 ≤ sizeMax := by decide
  try simp at h1
  simp [F__law_begins, h1, l0]
/-! ## raises -/
def RisOk (m : Nat) (pl : List Nat) (ps : List Int) : Prop := ∀ j r, ps[j]? = some r → 0 ≤ r ∧ (0 < r → stN pl j = m)
abbrev raiseTurn : CS := (sSeq (sAsg (gN 5) (cIf (tV (c2 gGt (cV 3) (cC (.int 0)))) (c1 gLen (c2 gIx (cV 0) (c2 gSub (cV 3) (cC (.int 1))))) (cC (.int 0)))) (sIf (tOr (tNot (tV (cCall0 (ifN 1 F_is_integer) (aCons (cV 4) aNil)))) (tOr (tV (c2 gLt (cV 4) (cC (.int 0)))) (tAnd (tV (c2 gGt (cV 4) (cC (.int 0)))) (tV (c2 gNe (cV 5) (cV 1)))))) (sRet (cC (.bl false))) sNil))
open Classical in
theorem e_raise_step {pl : List Nat} {m i : Nat} {P : Sl} {d : D} {x5 : Sl} {M : Mem} (hl : pl.length ≤ 100) (hi : i < pl.length) (sn : seen d = true) :
    raiseTurn [.sh (.lst (shelves pl)), .sh (.int m), P, .sh (.int i), .sh d, x5] M =
      .ok (if (∃ r, d = .int r ∧ 0 ≤ r ∧ (0 < r → stN pl i = m)) then .nx else .rt (.bl false), [.sh (.lst (shelves pl)), .sh (.int m), P, .sh (.int i), .sh d, .sh (.int (stN pl i))]) M := by
  have ei := e_int_any sn M
  have vw := view_seen sn M
  have main : ∀ r, d = .int r → sIf (tOr (tNot (tV (cCall0 (ifN 1 F_is_integer) (aCons (cV 4) aNil)))) (tOr (tV (c2 gLt (cV 4) (cC (.int 0)))) (tAnd (tV (c2 gGt (cV 4) (cC (.int 0)))) (tV (c2 gNe (cV 5) (cV 1)))))) (sRet (cC (.bl false))) sNil [.sh (.lst (shelves pl)), .sh (.int m), P, .sh (.int i), .sh d, .sh (.int (stN pl i))] M = .ok (if (∃ r, d = .int r ∧ 0 ≤ r ∧ (0 < r → stN pl i = m)) then .nx else .rt (.bl false), [.sh (.lst (shelves pl)), .sh (.int m), P, .sh (.int i), .sh d, .sh (.int (stN pl i))]) M := by
    rintro r rfl
    by_cases r0 : r < 0
    · have : ¬ (∃ r', D.int r = .int r' ∧ 0 ≤ r' ∧ (0 < r' → stN pl i = m)) := by rintro ⟨r', e, h, _⟩; injection e with e; omega
      rw [if_neg this]
      simp [ei, isInt, r0]
    · by_cases r1 : 0 < r
      · by_cases k : stN pl i = m
        · have : (∃ r', D.int r = .int r' ∧ 0 ≤ r' ∧ (0 < r' → stN pl i = m)) := ⟨r, rfl, by omega, fun _ => k⟩
          rw [if_pos this]
          simp [ei, isInt, r0, r1, k]
        · have : ¬ (∃ r', D.int r = .int r' ∧ 0 ≤ r' ∧ (0 < r' → stN pl i = m)) := by rintro ⟨r', e, _, h⟩; injection e with e; exact k (h (by omega))
          rw [if_neg this]
          have k' : ¬ ((stN pl i : Int) = m) := by omega
          simp [ei, isInt, r0, r1]; exact k'
      · have : (∃ r', D.int r = .int r' ∧ 0 ≤ r' ∧ (0 < r' → stN pl i = m)) := ⟨r, rfl, by omega, fun z => absurd z r1⟩
        rw [if_pos this]
        simp [ei, isInt, r0, r1]
  have main2 : sIf (tOr (tNot (tV (cCall0 (ifN 1 F_is_integer) (aCons (cV 4) aNil)))) (tOr (tV (c2 gLt (cV 4) (cC (.int 0)))) (tAnd (tV (c2 gGt (cV 4) (cC (.int 0)))) (tV (c2 gNe (cV 5) (cV 1)))))) (sRet (cC (.bl false))) sNil [.sh (.lst (shelves pl)), .sh (.int m), P, .sh (.int i), .sh d, .sh (.int (stN pl i))] M = .ok (if (∃ r, d = .int r ∧ 0 ≤ r ∧ (0 < r → stN pl i = m)) then .nx else .rt (.bl false), [.sh (.lst (shelves pl)), .sh (.int m), P, .sh (.int i), .sh d, .sh (.int (stN pl i))]) M := by
    cases hi : isInt d with
    | true => exact main (match d with | .int r => r | _ => 0) (by cases d <;> first | (cases hi; done) | rfl)
    | false =>
      rw [hi] at ei
      have : ¬ (∃ r, d = .int r ∧ 0 ≤ r ∧ (0 < r → stN pl i = m)) := by rintro ⟨r, rfl, _⟩; cases hi
      rw [if_neg this]
      simp [ei]
  rw [show raiseTurn = sSeq (sAsg (gN 5) (cIf (tV (c2 gGt (cV 3) (cC (.int 0)))) (c1 gLen (c2 gIx (cV 0) (c2 gSub (cV 3) (cC (.int 1))))) (cC (.int 0)))) (sIf (tOr (tNot (tV (cCall0 (ifN 1 F_is_integer) (aCons (cV 4) aNil)))) (tOr (tV (c2 gLt (cV 4) (cC (.int 0)))) (tAnd (tV (c2 gGt (cV 4) (cC (.int 0)))) (tV (c2 gNe (cV 5) (cV 1)))))) (sRet (cC (.bl false))) sNil) from rfl]
  have first_ : sAsg (gN 5) (cIf (tV (c2 gGt (cV 3) (cC (.int 0)))) (c1 gLen (c2 gIx (cV 0) (c2 gSub (cV 3) (cC (.int 1))))) (cC (.int 0))) [.sh (.lst (shelves pl)), .sh (.int m), P, .sh (.int i), .sh d, x5] M = .ok (.nx, [.sh (.lst (shelves pl)), .sh (.int m), P, .sh (.int i), .sh d, .sh (.int (stN pl i))]) M := by
    cases i with
    | zero => simp [stN, after]
    | succ j =>
      have ix : gIx (.lst (shelves pl)) (.int j) = some (shelf pl (j + 1)) := ix_lst (by rw [List.getElem?_map, List.getElem?_range (by omega)]; rfl)
      have j0 : (0 : Int) < (j : Int) + 1 := by omega
      have j1 : (j : Int) + 1 - 1 = j := by omega
      simp only [shelf] at ix
      simp [-gIx, j0, j1, ix, stN, shelf]
  rw [sSeq, first_]
  exact main2
theorem e_raises_any {pl : List Nat} {d : D} {m : Nat} (h : A1 d) (hl : pl.length ≤ 100) (M : Mem) : ∃ b, F_are_raises [.lst (shelves pl), .int m, d] M = .ok (.bl b) M ∧ (b = true ↔ ∃ ps, d = .tup (dI ps) ∧ ps.length = pl.length ∧ RisOk m pl ps) := by
  have ty := ty_tup h.1
  have vw := view_seen h.1 M
  have sl : (shelves pl).length = pl.length := by simp
  have sh_ : F_are_raises = body 6 3 (sSeq (sIf (tOr (tNot (tV (c1 (gIsI "tuple") (cV 2)))) (tV (c2 gNe (c1 gLen (cV 2)) (c1 gLen (cV 0))))) (sRet (cC (.bl false))) sNil) (sSeq (sFor (iEnum (cV 2)) (gT [(gN 3), (gN 4)]) raiseTurn) (sRet (cC (.bl true))))) := rfl
  rw [sh_]
  cases ht : isTup d with
  | false =>
    rw [ht] at ty
    refine ⟨false, by simp [vw, ty], ⟨fun q => (nomatch q), fun ⟨pl, e, _⟩ => by rw [e] at ht; cases ht⟩⟩
  | true =>
    rw [ht] at ty
    obtain ⟨ds, rfl⟩ : ∃ ds, d = .tup ds := by cases d <;> first | (cases ht; done) | exact ⟨_, rfl⟩
    obtain ⟨hd, hy⟩ := h.2 ds rfl
    by_cases ln : ds.length = pl.length
    · have go := forL_chk (g := gT [gN 3, gN 4]) (s := raiseTurn) (M := M) (fun p : Nat × D => D.tup [.int (p.1 : Int), p.2]) (.bl false) (¬ ∃ ps, ds = dI ps ∧ RisOk m pl ps)
        (fun i E => ∃ ps, ds.take i = dI ps ∧ RisOk m pl ps ∧ ∃ x y z, E = [.sh (.lst (shelves pl)), .sh (.int m), .sh (.tup ds), x, y, z]) ((List.range ds.length).zip ds) 0
        (fun i q E hq ⟨ps, e2, ok, x, y, z, hE⟩ => by
          subst hE
          rw [Nat.zero_add] at e2
          obtain ⟨hlt, q1, q2⟩ := zip_at hq
          obtain ⟨qi, qd⟩ := q
          dsimp only at q1 q2
          subst q1
          have sn := (hy qd (List.mem_of_getElem? q2)).1
          have e := e_raise_step (pl := pl) (m := m) (i := qi) (P := .sh (.tup ds)) (x5 := z) (M := M) hl (by omega) sn
          have lp : ps.length = qi := by
            have := congrArg List.length e2
            rw [List.length_take, List.length_map] at this
            omega
          refine ⟨[.sh (.lst (shelves pl)), .sh (.int m), .sh (.tup ds), .sh (.int qi), .sh qd, z], [.sh (.lst (shelves pl)), .sh (.int m), .sh (.tup ds), .sh (.int qi), .sh qd, .sh (.int (stN pl qi))], by simp [gsN], ?_⟩
          by_cases w : ∃ r, qd = .int r ∧ 0 ≤ r ∧ (0 < r → stN pl qi = m)
          · rw [if_pos w] at e
            obtain ⟨r, rfl, r0, r1⟩ := w
            refine .inl ⟨e, ps ++ [r], ?_, fun j v hj => ?_, _, _, _, rfl⟩
            · rw [Nat.zero_add, List.take_add_one, q2, e2]; simp [dI]
            · by_cases c : j < ps.length
              · rw [List.getElem?_append_left c] at hj; exact ok j v hj
              · have l := (List.getElem?_eq_some_iff.mp hj).1
                rw [List.length_append, List.length_singleton] at l
                have : j = ps.length := by omega
                subst this
                simp at hj
                subst hj
                rw [lp]; exact ⟨r0, r1⟩
          · rw [if_neg w] at e
            refine .inr ⟨e, ?_⟩
            rintro ⟨ps', rfl, ok'⟩
            rw [List.getElem?_map] at q2
            obtain ⟨r, hr, rfl⟩ := Option.map_eq_some_iff.mp q2
            exact w ⟨r, rfl, ok' qi r hr⟩)
        [.sh (.lst (shelves pl)), .sh (.int m), .sh (.tup ds), .un, .un, .un] ⟨[], by simp, fun j r hj => by simp at hj, _, _, _, rfl⟩
      rw [← pair_any] at go
      have ln' : (ds.length : Int) = pl.length := by omega
      rw [ln] at go
      rcases go with ⟨E', g1, ps, p2, p3, _⟩ | ⟨E', g1, bad⟩
      · rw [List.take_of_length_le (by rw [List.length_zip, List.length_range]; omega)] at p2
        refine ⟨true, by simp [ty, ln, g1], ⟨fun _ => ⟨ps, by rw [p2], ?_, p3⟩, fun _ => rfl⟩⟩
        rw [← ln, p2, List.length_map]
      · exact ⟨false, by simp [ty, ln, g1], ⟨fun q => (nomatch q), fun ⟨ps, e, _, ok⟩ => (bad ⟨ps, by injection e, ok⟩).elim⟩⟩
    · have ln' : ¬ ((ds.length : Int) = pl.length) := by omega
      refine ⟨false, by simp [ty, ln, ln'], ⟨fun q => (nomatch q), fun ⟨ps, e, l, _⟩ => ?_⟩⟩
      injection e with e
      rw [e, List.length_map] at ln
      exact (ln l).elim
end K75
namespace K75
open PySem J PM PB
theorem gAny_map {α : Type} (xs : List α) (p : α → Bool) : gAny (.lst (xs.map fun x => D.bl (p x))) = some (.bl (xs.any p)) := by
  have e : xs.map (fun x => D.bl (p x)) = (xs.map p).map D.bl := by rw [List.map_map]; rfl
  rw [e]
  have b := boolsD_map (xs.map p)
  show (boolsD ((xs.map p).map D.bl)).map (fun bs => D.bl (bs.any id)) = _
  rw [b]
  show some (D.bl ((xs.map p).any id)) = _
  rw [List.any_map]; rfl
theorem gAll_map {α : Type} (xs : List α) (p : α → Bool) : gAll (.lst (xs.map fun x => D.bl (p x))) = some (.bl (xs.all p)) := by
  have e : xs.map (fun x => D.bl (p x)) = (xs.map p).map D.bl := by rw [List.map_map]; rfl
  rw [e, gAll_lst, List.all_map]; rfl
/-! ## what runs bear -/
theorem e_bornFail {sz ps : List Int} {P : D} {h g : Nat} {r : Int} {rs : List PB.R} {x6 x7 x8 x9 x10 : Sl} {M : Mem} (hr : ps[h]? = some r) (hb : ¬ ∀ q ∈ rs, q.x + r ≤ S sz q.a q.e) :
    ∃ E', bornTurn [.sh (.tup (dI sz)), .sh P, .sh (.tup (dI ps)), .sh (.lst (rs.map (tD sz))), .sh (.int h), .sh (.int g), x6, x7, x8, x9, x10] M = .ok (.rt (.bl false), E') M := by
  have i1 := ix_dI hr
  have c1 := compL_map (vs := [7, 8, 9]) (g := gT [gN 7, gN 8, gN 9]) (f := cTup (aCons (cV 7) (aCons (cV 8) (aCons (c2 gAdd (cV 9) (c2 gIx (cV 2) (cV 4))) aNil)))) (E := [.sh (.tup (dI sz)), .sh P, .sh (.tup (dI ps)), .sh (.lst (rs.map (tD sz))), .sh (.int h), .sh (.int g), x6, x7, x8, x9, x10]) (M := M)
    (tD sz) (fun q => tD sz (upR r q)) rs fun q hq => ⟨_, rfl, by simp [-gIx, wipe, tD, gsN, i1, upR, sizeMax]⟩
  have c2 := compL_map (vs := [7, 8, 9]) (g := gT [gN 7, gN 8, gN 9]) (f := J.c2 gGt (cV 9) (cV 8)) (E := [.sh (.tup (dI sz)), .sh P, .sh (.tup (dI ps)), .sh (.lst (rs.map fun q => tD sz (upR r q))), .sh (.int h), .sh (.int g), x6, x7, x8, x9, x10]) (M := M)
    (fun q => tD sz (upR r q)) (fun q => D.bl (decide (S sz q.a q.e < q.x + r))) rs fun q hq => ⟨_, rfl, by simp [wipe, tD, gsN, upR]⟩
  have a2 := gAny_map rs fun q => decide (S sz q.a q.e < q.x + r)
  have t : (rs.any fun q => decide (S sz q.a q.e < q.x + r)) = true := by
    apply Classical.byContradiction
    intro c
    apply hb
    intro q hq
    apply Classical.byContradiction
    intro c2
    exact c (List.any_eq_true.mpr ⟨q, hq, by simp; omega⟩)
  rw [t] at a2
  exact ⟨_, by simp [-List.map_map, -List.map_append, -gIx, c1, c2, a2]; rfl⟩
theorem pl_le {pl : List Nat} (ok : PlanOk 0 [] pl) (t : Nat) : pl.getD t 0 ≤ t := by
  rw [List.getD_eq_getElem?_getD]
  cases q : pl[t]? with
  | none => exact Nat.zero_le _
  | some g => have := planOk_iff.mp ok t g q; show g ≤ t; omega
theorem e_borne_any {sz : List Int} (hs : Sz sz) {pl : List Nat} {ps : List Int} (ok : PlanOk 0 [] pl) (hl : pl.length = sz.length) (hp : ps.length = sz.length) (h0 : ∀ r ∈ ps, 0 ≤ r) (M : Mem) :
    ∃ b, F_are_borne [.tup (dI sz), .tup (dN pl), .tup (dI ps)] M = .ok (.bl b) M ∧ (b = true ↔ Bo sz pl ps sz.length) := by
  have l12 := hs.2.1
  have go := forL_chk (g := gT [gN 4, gN 5]) (s := bornTurn) (M := M) (fun p : Nat × Nat => D.tup [.int (p.1 : Int), .int (p.2 : Int)]) (.bl false) (¬ Bo sz pl ps sz.length)
    (fun i E => ∃ rs x4 x5 x6 x7 x8 x9 x10, E = [.sh (.tup (dI sz)), .sh (.tup (dN pl)), .sh (.tup (dI ps)), .sh (.lst (rs.map (tD sz))), x4, x5, x6, x7, x8, x9, x10] ∧ Stds pl ps i rs ∧ Bo sz pl ps i) ((List.range pl.length).zip pl) 0
    (fun i q E hq ⟨rs, x4, x5, x6, x7, x8, x9, x10, hE, x, bo⟩ => by
      subst hE
      rw [Nat.zero_add] at x bo ⊢
      have hlt : i < pl.length := by
        have := (List.getElem?_eq_some_iff.mp hq).1
        simpa using this
      rw [List.getElem?_zip_eq_some] at hq
      obtain ⟨q1, q2⟩ := hq
      rw [List.getElem?_range hlt] at q1
      obtain ⟨qa, g⟩ := q
      have q1 : i = qa := Option.some.inj q1
      have q2 : pl[i]? = some g := q2
      subst q1
      obtain ⟨r, hr⟩ : ∃ r, ps[i]? = some r := ⟨ps[i]'(by omega), List.getElem?_eq_getElem (by omega)⟩
      have og := planOk_iff.mp ok i g q2
      have gl : g ≤ i := by omega
      have gm : g = i ∨ g ∈ after [] (pl.take i) := by simpa using og.2
      have xn := x.next q2 hr gm gl
      have len : rs.length ≤ 100 := by
        have := congrArg List.length x.begs
        rw [List.length_map] at this
        have := shelf_len pl i (by omega)
        omega
      refine ⟨[.sh (.tup (dI sz)), .sh (.tup (dN pl)), .sh (.tup (dI ps)), .sh (.lst (rs.map (tD sz))), .sh (.int i), .sh (.int g), x6, x7, x8, x9, x10], ?_⟩
      by_cases w : ∀ q ∈ rs, q.x + r ≤ S sz q.a q.e
      · have e := e_bornTurn (sz := sz) (ps := ps) (P := .tup (dN pl)) (h := i) (g := g) (r := r) (rs := rs) (x6 := x6) (x7 := x7) (x8 := x8) (x9 := x9) (x10 := x10) (M := M) hr (by omega) x.tile (by rw [x.begs]; exact gm.symm) w len
        refine ⟨_, by simp [gsN], .inl ⟨e, _, _, _, _, _, _, _, _, rfl, xn, fun j t hj st => ?_⟩⟩
        by_cases c : j < i
        · exact bo j t c st
        · have : j = i := by omega
          subst this
          obtain ⟨q, hq, e⟩ := x.all t st
          obtain ⟨o1, o2, o3⟩ := x.one q hq
          have := w q hq
          rw [psum_next st.1 hr, ← e, ← o3, ← o2]
          exact this
      · obtain ⟨E', e⟩ := e_bornFail (sz := sz) (ps := ps) (P := .tup (dN pl)) (h := i) (g := g) (r := r) (rs := rs) (x6 := x6) (x7 := x7) (x8 := x8) (x9 := x9) (x10 := x10) (M := M) hr w
        refine ⟨E', by simp [gsN], .inr ⟨e, fun b => w fun q hq => ?_⟩⟩
        obtain ⟨o1, o2, o3⟩ := x.one q hq
        have := b i q.e (by omega) o1
        rw [psum_next o1.1 hr, ← o3, ← o2] at this
        exact this)
    [.sh (.tup (dI sz)), .sh (.tup (dN pl)), .sh (.tup (dI ps)), .sh (.lst []), .un, .un, .un, .un, .un, .un, .un] ⟨[], _, _, _, _, _, _, _, rfl, Stds.nil, fun i t hi => by omega⟩
  rw [← pair_enum] at go
  have en : 0 + ((List.range pl.length).zip pl).length = sz.length := by simp; omega
  rw [en] at go
  have l0 : 0 ≤ sizeMax := by decide
  rw [borne_shape]
  rcases go with ⟨E', g1, rs, _, _, _, _, _, _, _, _, _, bo⟩ | ⟨E', g1, bad⟩
  · try simp at g1
    exact ⟨true, by simp [l0, g1], ⟨fun _ => bo, fun _ => rfl⟩⟩
  · try simp at g1
    exact ⟨false, by simp [l0, g1], ⟨fun q => (nomatch q), fun b => (bad b).elim⟩⟩
/-! ## the package's judge -/
def IsB (sz : List Int) (m : Nat) (d : D) (pl : List Nat) (ps : List Int) : Prop := d = .tup [.tup (dN pl), .tup (dI ps)] ∧ Spec sz m pl ps
theorem A2.at {d : D} {ds : List D} (h : A2 d) (e : d = .tup ds) {y : D} (hy : y ∈ ds) : A1 y := (h.2 ds e).2 y hy
theorem e_pair_any {d : D} (h : A2 d) (M : Mem) : ∃ b, F_is_pair [d] M = .ok (.bl b) M ∧ (b = true ↔ ∃ a c, d = .tup [a, c]) := by
  have ty := ty_tup h.1
  have vw := view_seen h.1 M
  cases ht : isTup d with
  | false =>
    rw [ht] at ty
    exact ⟨false, by simp [F_is_pair, vw, ty], ⟨fun q => (nomatch q), fun ⟨a, c, e⟩ => by rw [e] at ht; cases ht⟩⟩
  | true =>
    rw [ht] at ty
    obtain ⟨ds, rfl⟩ : ∃ ds, d = .tup ds := by cases d <;> first | (cases ht; done) | exact ⟨_, rfl⟩
    refine ⟨decide ((ds.length : Int) = 2), by simp [F_is_pair, ty], ?_⟩
    rw [decide_eq_true_eq]
    constructor
    · intro e
      match ds, e with
      | [a, c], _ => exact ⟨a, c, rfl⟩
      | [], e => simp at e
      | [a], e => simp at e
      | a :: b :: c :: r, e => simp at e; omega
    · rintro ⟨a, c, e⟩
      injection e with e
      rw [e]; rfl
theorem e_there_any {sz : List Int} (hs : Sz sz) {m : Nat} {d : D} (h : A2 d) (M : Mem) : ∃ b, F_is_burden_there [.tup (dI sz), .int m, d] M = .ok (.bl b) M ∧ (b = true ↔ ∃ pl ps, IsB sz m d pl ps) := by
  have l12 := hs.2.1
  obtain ⟨b1, e1, i1⟩ := e_pair_any h M
  cases b1 with
  | false => exact ⟨false, by simp [F_is_burden_there, e1], ⟨fun q => (nomatch q), fun ⟨pl, ps, e, _⟩ => by have := i1.mpr ⟨_, _, e⟩; cases this⟩⟩
  | true =>
    obtain ⟨a, c, rfl⟩ := i1.mp rfl
    have ha : A1 a := h.at rfl (by simp)
    have hc : A1 c := h.at rfl (by simp)
    have x0 : gIx (.tup [a, c]) (.int 0) = some a := rfl
    have x1 : gIx (.tup [a, c]) (.int 1) = some c := rfl
    have va := view_seen ha.1 M
    have vc := view_seen hc.1 M
    obtain ⟨b2, e2, i2⟩ := e_is_plan_any (n := sz.length) ha (by omega) M
    cases b2 with
    | false => exact ⟨false, by simp [F_is_burden_there, -gIx, e1, x0, e2], ⟨fun q => (nomatch q), fun ⟨pl, ps, e, sp⟩ => by
        injection e with e; injection e with e _
        have := i2.mpr ⟨pl, e, sp.len, sp.plan⟩; cases this⟩⟩
    | true =>
      obtain ⟨pl, rfl, pn, pok⟩ := i2.mp rfl
      have e3 := e_behind (pl := pl) (by omega) M
      have c4 := compL_map (vs := [4]) (g := gN 4) (f := c2 gGt (c1 gLen (cV 4)) (cV 1)) (E := [.sh (.tup (dI sz)), .sh (.int m), .sh (.tup [.tup (dN pl), c]), .sh (.lst (shelves pl)), .un]) (M := M)
        (fun i : Nat => shelf pl (i + 1)) (fun i => D.bl (decide (m < stN pl (i + 1)))) (List.range pl.length) fun i hi => ⟨_, rfl, by simp [wipe, shelf, stN]; try rfl⟩
      have a4 := gAny_map (List.range pl.length) fun i => decide (m < stN pl (i + 1))
      have uniq : ∀ pl' ps, IsB sz m (.tup [.tup (dN pl), c]) pl' ps → pl' = pl ∧ c = .tup (dI ps) ∧ Spec sz m pl ps := by
        rintro pl' ps ⟨e, sp⟩
        injection e with e; injection e with e e'; injection e' with e' _
        injection e with e
        have := dN_inj e
        subst this
        exact ⟨rfl, e', sp⟩
      cases hw : (List.range pl.length).any fun i => decide (m < stN pl (i + 1)) with
      | true =>
        rw [hw] at a4
        refine ⟨false, by simp [F_is_burden_there, -gIx, -List.map_map, e1, x0, e2, e3, c4, a4], ⟨fun q => (nomatch q), fun ⟨pl', ps, bb⟩ => ?_⟩⟩
        obtain ⟨_, _, sp⟩ := uniq pl' ps bb
        obtain ⟨i, hi, hw⟩ := List.any_eq_true.mp hw
        have := sp.wide i (by have := List.mem_range.mp hi; omega)
        simp at hw; omega
      | false =>
        rw [hw] at a4
        have wd : ∀ i, i < sz.length → stN pl (i + 1) ≤ m := fun i hi => by
          have := List.any_eq_false.mp hw i (List.mem_range.mpr (by omega))
          simpa using this
        obtain ⟨b5, e5, i5⟩ := e_raises_any (m := m) hc (show pl.length ≤ 100 by omega) M
        cases b5 with
        | false =>
          refine ⟨false, by simp [F_is_burden_there, -gIx, -List.map_map, e1, x0, x1, e2, e3, c4, a4, e5], ⟨fun q => (nomatch q), fun ⟨pl', ps, bb⟩ => ?_⟩⟩
          obtain ⟨_, ec, sp⟩ := uniq pl' ps bb
          have := i5.mpr ⟨ps, ec, by rw [sp.plen, sp.len], sp.rise⟩
          cases this
        | true =>
          obtain ⟨ps, rfl, pn2, ro⟩ := i5.mp rfl
          have h0 : ∀ r ∈ ps, 0 ≤ r := fun r hr => by
            obtain ⟨j, hj⟩ := List.mem_iff_getElem?.mp hr
            exact (ro j r hj).1
          obtain ⟨b6, e6, i6⟩ := e_borne_any hs pok pn (by omega) h0 M
          refine ⟨b6, by simp [F_is_burden_there, -gIx, -List.map_map, e1, x0, x1, e2, e3, c4, a4, e5, e6], ⟨fun q => ⟨pl, ps, rfl, pn, pok, wd, by omega, ro, i6.mp q⟩, fun ⟨pl', ps', bb⟩ => ?_⟩⟩
          obtain ⟨_, ec, sp⟩ := uniq pl' ps' bb
          injection ec with ec
          have := dI_inj ec
          subst this
          exact i6.mpr sp.bo
end K75
namespace K75
open PySem J PM PB
theorem upFrom_nat : ∀ (n a : Nat), upFrom (a : Int) n = dN (List.range' a n)
  | 0, a => rfl
  | n + 1, a => by
    rw [upFrom, List.range'_succ]
    have := upFrom_nat n (a + 1)
    rw [show (((a + 1 : Nat)) : Int) = (a : Int) + 1 by omega] at this
    rw [this]; rfl
theorem ix_dN {pl : List Nat} {u : Nat} (h : u < pl.length) : gIx (.tup (dN pl)) (.int u) = some (.int (pl.getD u 0 : Nat)) := by
  have l : u < (dN pl).length := by rw [List.length_map]; exact h
  show (ixN (dN pl).length (u : Int)).bind (fun j => (dN pl)[j]?) = _
  rw [ixN_nat _ _ l]
  show (dN pl)[u]? = _
  rw [List.getElem?_map, List.getElem?_eq_getElem h, List.getD_eq_getElem?_getD, List.getElem?_eq_getElem h]; rfl
theorem Joined.uniq {pl : List Nat} {t J J' : Nat} (a : Joined pl t J) (b : Joined pl t J') : J = J' := by
  rcases Nat.lt_trichotomy J J' with h | h | h
  · have := b.be J a.gt h
    have := b.le
    rcases a.at_ with z | z <;> omega
  · exact h
  · have := a.be J' b.gt h
    have := a.le
    rcases b.at_ with z | z <;> omega
theorem sum_cut (ps : List Int) (t J : Nat) : gSum (.tup (cutD (dI ps) (some ((t : Int) + 1)) (some ((J : Int) + 1)))) = some (.int (psum ps t (J + 1))) := by
  have h := cutD_both (ds := dI ps) (a := t + 1) (b := J + 1)
  rw [show (((t + 1 : Nat)) : Int) = (t : Int) + 1 by omega, show (((J + 1 : Nat)) : Int) = (J : Int) + 1 by omega] at h
  rw [h, ← List.map_drop, ← List.map_take, gSum_tup]; rfl
abbrev l1Turn : CS := (sSeq (sIf (tOr (tV (c2 gGt (c1 gLen (cV 7)) (cV 1))) (tAnd (tV (c2 gGt (c2 gIx (cV 5) (cV 6)) (cC (.int 0)))) (tV (c2 gNe (cV 3) (cV 1))))) (sRet (cC (.bl false))) sNil) (sAsg (gN 3) (c1 gLen (cV 7))))
abbrev l2Turn : CS := (sSeq (sAsg (gN 9) (c2 gAdd (cComp [11] (iRng2 (c2 gAdd (cV 6) (cC (.int 1))) (c1 gLen (cV 4))) (gN 11) (tV (c2 gLe (c2 gIx (cV 4) (cV 11)) (cV 8))) (cV 11)) (cLst (aCons (c1 gLen (cV 4)) aNil)))) (sIf (tV (c2 gGt (c1 gSum (cSl (cV 5) (oSome (c2 gAdd (cV 6) (cC (.int 1)))) (oSome (c2 gAdd (c2 gIx (cV 9) (cC (.int 0))) (cC (.int 1)))))) (c1 gSum (cSl (cV 0) (oSome (cV 8)) (oSome (c2 gAdd (cV 6) (cC (.int 1)))))))) (sRet (cC (.bl false))) sNil))
theorem lb_shape : F__law_is_burden = body 12 3 (sSeq (sIf (tOr (tNot (tV (c1 (gIsI "tuple") (cV 2)))) (tOr (tV (c2 gNe (c1 gLen (cV 2)) (cC (.int 2)))) (tNot (tV (cCall0 (ifN 2 F__law_is_plan) (aCons (c1 gLen (cV 0)) (aCons (c2 gIx (cV 2) (cC (.int 0))) aNil))))))) (sRet (cC (.bl false))) sNil) (sSeq (sAsg (gT [(gN 4), (gN 5)]) (cV 2)) (sSeq (sIf (tOr (tNot (tV (c1 (gIsI "tuple") (cV 5)))) (tV (c2 gNe (c1 gLen (cV 5)) (c1 gLen (cV 0))))) (sRet (cC (.bl false))) sNil) (sSeq (sIf (tNot (tV (c1 gAll (cComp [10] (iSeq (cV 5)) (gN 10) tYes (cCall0 (ifN 3 F__law_whole) (aCons (cV 10) (aCons (cC (.int 0)) (aCons (c2 gPow (cC (.int 10)) (cC (.int 60))) aNil)))))))) (sRet (cC (.bl false))) sNil) (sSeq (sAsg (gN 3) (cC (.int 0))) (sSeq (sFor (iEnum (cCall0 (ifN 1 F__law_begins) (aCons (cV 4) aNil))) (gT [(gN 6), (gN 7)]) l1Turn) (sSeq (sFor (iEnum (cV 4)) (gT [(gN 6), (gN 8)]) l2Turn) (sRet (cC (.bl true)))))))))) := rfl
theorem e_l1 {sz ps : List Int} {pl : List Nat} {m : Nat} {T : Sl} {M : Mem} (hl : pl.length = sz.length) (hp : ps.length = sz.length) {x6 x7 x8 x9 x10 x11 : Sl} :
    (∃ E', forL (gT [gN 6, gN 7]) l1Turn (pairUp (upFrom 0 (shelves pl).length) (shelves pl)) [.sh (.tup (dI sz)), .sh (.int m), T, .sh (.int 0), .sh (.tup (dN pl)), .sh (.tup (dI ps)), x6, x7, x8, x9, x10, x11] M = .ok (.nx, E') M ∧
      (∃ y3 y6 y7, E' = [.sh (.tup (dI sz)), .sh (.int m), T, y3, .sh (.tup (dN pl)), .sh (.tup (dI ps)), y6, y7, x8, x9, x10, x11]) ∧ ∀ j, j < sz.length → stN pl (j + 1) ≤ m ∧ ∀ r, ps[j]? = some r → 0 < r → stN pl j = m) ∨
    (∃ E', forL (gT [gN 6, gN 7]) l1Turn (pairUp (upFrom 0 (shelves pl).length) (shelves pl)) [.sh (.tup (dI sz)), .sh (.int m), T, .sh (.int 0), .sh (.tup (dN pl)), .sh (.tup (dI ps)), x6, x7, x8, x9, x10, x11] M = .ok (.rt (.bl false), E') M ∧
      ¬ ∀ j, j < sz.length → stN pl (j + 1) ≤ m ∧ ∀ r, ps[j]? = some r → 0 < r → stN pl j = m) := by
  have pe : pairUp (upFrom 0 (shelves pl).length) (shelves pl) = (List.range pl.length).map fun i : Nat => D.tup [.int (i : Int), shelf pl (i + 1)] := by
    rw [upFrom0, pairUp_map, List.length_map, List.length_range]
    have : (List.range pl.length).zip (List.range pl.length) = (List.range pl.length).map fun i => (i, i) := by
      rw [List.zip_eq_zipWith, List.zipWith_self]
    rw [this, List.map_map]; rfl
  rw [pe]
  have go := forL_chk (g := gT [gN 6, gN 7]) (s := l1Turn) (M := M) (fun i : Nat => D.tup [.int (i : Int), shelf pl (i + 1)]) (.bl false) (¬ ∀ j, j < sz.length → stN pl (j + 1) ≤ m ∧ ∀ r, ps[j]? = some r → 0 < r → stN pl j = m)
    (fun i E => (∃ y6 y7, E = [.sh (.tup (dI sz)), .sh (.int m), T, .sh (.int (stN pl i)), .sh (.tup (dN pl)), .sh (.tup (dI ps)), y6, y7, x8, x9, x10, x11]) ∧ ∀ j, j < i → stN pl (j + 1) ≤ m ∧ ∀ r, ps[j]? = some r → 0 < r → stN pl j = m) (List.range pl.length) 0
    (fun i q E hq ⟨⟨y6, y7, hE⟩, ok⟩ => by
      subst hE
      rw [Nat.zero_add] at ok ⊢
      obtain ⟨hlt, eq⟩ := List.getElem?_eq_some_iff.mp hq
      simp at hlt eq
      subst eq
      obtain ⟨r, hr⟩ : ∃ r, ps[i]? = some r := ⟨ps[i]'(by omega), List.getElem?_eq_getElem (by omega)⟩
      have ix := ix_dI hr
      have sl : gLen (shelf pl (i + 1)) = some (.int (stN pl (i + 1))) := by simp [shelf, stN]
      have vs : view M (shelf pl (i + 1)) = shelf pl (i + 1) := rfl
      by_cases w1 : m < stN pl (i + 1)
      · have w1' : (m : Int) < (stN pl (i + 1) : Int) := by omega
        exact ⟨[.sh (.tup (dI sz)), .sh (.int m), T, .sh (.int (stN pl i)), .sh (.tup (dN pl)), .sh (.tup (dI ps)), .sh (.int i), .sh (shelf pl (i + 1)), x8, x9, x10, x11], _, by simp [gsN], .inr ⟨by simp [-gIx, -gLen, vs, sl, w1]; rfl, fun z => by have := (z i (by omega)).1; omega⟩⟩
      · have w1' : ¬ (m : Int) < (stN pl (i + 1) : Int) := by omega
        by_cases w2 : 0 < r ∧ stN pl i ≠ m
        · have w3 : ¬ ((stN pl i : Int) = m) := by omega
          refine ⟨[.sh (.tup (dI sz)), .sh (.int m), T, .sh (.int (stN pl i)), .sh (.tup (dN pl)), .sh (.tup (dI ps)), .sh (.int i), .sh (shelf pl (i + 1)), x8, x9, x10, x11], _, by simp [gsN], .inr ⟨by simp [-gIx, -gLen, vs, sl, w1, ix, w2.1, w3, w2.2]; rfl, fun z => ?_⟩⟩
          exact w2.2 ((z i (by omega)).2 r hr w2.1)
        · refine ⟨[.sh (.tup (dI sz)), .sh (.int m), T, .sh (.int (stN pl i)), .sh (.tup (dN pl)), .sh (.tup (dI ps)), .sh (.int i), .sh (shelf pl (i + 1)), x8, x9, x10, x11], [.sh (.tup (dI sz)), .sh (.int m), T, .sh (.int (stN pl (i + 1))), .sh (.tup (dN pl)), .sh (.tup (dI ps)), .sh (.int i), .sh (shelf pl (i + 1)), x8, x9, x10, x11], by simp [gsN], .inl ⟨?_, ⟨_, _, rfl⟩, fun j hj => ?_⟩⟩
          · by_cases w3 : 0 < r
            · have w4 : stN pl i = m := Classical.byContradiction fun z => w2 ⟨w3, z⟩
              simp [-gIx, -gLen, vs, sl, w1, ix, w3, w4]
            · simp [-gIx, -gLen, vs, sl, w1, ix, w3]
          · by_cases c : j < i
            · exact ok j c
            · have : j = i := by omega
              subst this
              refine ⟨by omega, fun r' hr' r0 => ?_⟩
              rw [hr] at hr'
              cases hr'
              exact Classical.byContradiction fun z => w2 ⟨r0, z⟩)
    [.sh (.tup (dI sz)), .sh (.int m), T, .sh (.int 0), .sh (.tup (dN pl)), .sh (.tup (dI ps)), x6, x7, x8, x9, x10, x11] ⟨⟨_, _, rfl⟩, fun j hj => by omega⟩
  have en : 0 + (List.range pl.length).length = sz.length := by simp [hl]
  rw [en] at go
  rcases go with ⟨E', g1, ⟨y6, y7, hE⟩, ok⟩ | ⟨E', g1, bad⟩
  · exact .inl ⟨E', g1, ⟨_, _, _, hE⟩, ok⟩
  · exact .inr ⟨E', g1, bad⟩
theorem e_l2 {sz ps : List Int} {pl : List Nat} {m : Nat} {T x3 : Sl} {M : Mem} (h12 : sz.length ≤ 12) (hl : pl.length = sz.length) (hp : ps.length = sz.length) {x6 x7 x8 x9 x10 x11 : Sl} :
    (∃ E', forL (gT [gN 6, gN 8]) l2Turn (pairUp (upFrom 0 (dN pl).length) (dN pl)) [.sh (.tup (dI sz)), .sh (.int m), T, x3, .sh (.tup (dN pl)), .sh (.tup (dI ps)), x6, x7, x8, x9, x10, x11] M = .ok (.nx, E') M ∧ ∀ t J, t < sz.length → Joined pl t J → psum ps t (J + 1) ≤ S sz (pl.getD t 0) t) ∨
    (∃ E', forL (gT [gN 6, gN 8]) l2Turn (pairUp (upFrom 0 (dN pl).length) (dN pl)) [.sh (.tup (dI sz)), .sh (.int m), T, x3, .sh (.tup (dN pl)), .sh (.tup (dI ps)), x6, x7, x8, x9, x10, x11] M = .ok (.rt (.bl false), E') M ∧ ¬ ∀ t J, t < sz.length → Joined pl t J → psum ps t (J + 1) ≤ S sz (pl.getD t 0) t) := by
  rw [List.length_map, pair_enum]
  have go := forL_chk (g := gT [gN 6, gN 8]) (s := l2Turn) (M := M) (fun p : Nat × Nat => D.tup [.int (p.1 : Int), .int (p.2 : Int)]) (.bl false) (¬ ∀ t J, t < sz.length → Joined pl t J → psum ps t (J + 1) ≤ S sz (pl.getD t 0) t)
    (fun i E => (∃ y6 y8 y9, E = [.sh (.tup (dI sz)), .sh (.int m), T, x3, .sh (.tup (dN pl)), .sh (.tup (dI ps)), y6, x7, y8, y9, x10, x11]) ∧ ∀ t J, t < i → Joined pl t J → psum ps t (J + 1) ≤ S sz (pl.getD t 0) t) ((List.range pl.length).zip pl) 0
    (fun i q E hq ⟨⟨y6, y8, y9, hE⟩, ok⟩ => by
      subst hE
      rw [Nat.zero_add] at ok ⊢
      have hlt : i < pl.length := by
        have := (List.getElem?_eq_some_iff.mp hq).1
        simpa using this
      rw [List.getElem?_zip_eq_some] at hq
      obtain ⟨q1, q2⟩ := hq
      rw [List.getElem?_range hlt] at q1
      obtain ⟨qa, g⟩ := q
      have q1 : i = qa := Option.some.inj q1
      have q2 : pl[i]? = some g := q2
      subst q1
      have gd : pl.getD i 0 = g := by rw [List.getD_eq_getElem?_getD, q2]; rfl
      obtain ⟨J, jh, jj⟩ := joined_head (pl := pl) (t := i) (pl.length - (i + 1)) (i + 1) (by omega) (by omega) fun u h1 h2 => by omega
      rw [gd] at jh
      have c := compL_filter (vs := [11]) (g := gN 11) (t := tV (c2 gLe (c2 gIx (cV 4) (cV 11)) (cV 8))) (f := cV 11) (E := [.sh (.tup (dI sz)), .sh (.int m), T, x3, .sh (.tup (dN pl)), .sh (.tup (dI ps)), .sh (.int i), x7, .sh (.int g), y9, x10, x11]) (M := M)
        (fun u : Nat => D.int u) (fun u : Nat => D.int u) (fun u => decide (pl.getD u 0 ≤ g)) (List.range' (i + 1) (pl.length - (i + 1))) fun u hu => by
          have hu := List.mem_range'_1.mp hu
          have ix := ix_dN (pl := pl) (u := u) (by omega)
          exact ⟨_, rfl, by simp [-gIx, wipe, ix], fun _ => by simp [wipe]⟩
      have uf : upFrom ((i : Int) + 1) (((pl.length : Int) - ((i : Int) + 1)).toNat) = (List.range' (i + 1) (pl.length - (i + 1))).map fun u : Nat => D.int u := by
        have := upFrom_nat (pl.length - (i + 1)) (i + 1)
        rw [show (((i + 1 : Nat)) : Int) = (i : Int) + 1 by omega] at this
        rw [show ((pl.length : Int) - ((i : Int) + 1)).toNat = pl.length - (i + 1) by omega, this]
      have l1 : ((i : Int) + 1).natAbs ≤ sizeMax := by unfold sizeMax; omega
      have l2 : pl.length ≤ sizeMax := by unfold sizeMax; omega
      have l3 : ((pl.length : Int) - ((i : Int) + 1)).toNat ≤ sizeMax := by unfold sizeMax; omega
      have l4 : 1 ≤ sizeMax := by decide
      have lf := List.length_filter_le (fun u => decide (pl.getD u 0 ≤ g)) (List.range' (i + 1) (pl.length - (i + 1)))
      rw [List.length_range'] at lf
      have l5 : ((List.range' (i + 1) (pl.length - (i + 1))).filter fun u => decide (pl.getD u 0 ≤ g)).length + 1 ≤ sizeMax := by unfold sizeMax; omega
      have l6 : (i : Int) + 1 ≤ 16777216 := by omega
      have ixJ : gIx (.lst (((List.range' (i + 1) (pl.length - (i + 1))).filter fun u => decide (pl.getD u 0 ≤ g)).map (fun u : Nat => D.int u) ++ [D.int pl.length])) (.int 0) = some (.int J) := by
        have e : ((List.range' (i + 1) (pl.length - (i + 1))).filter fun u => decide (pl.getD u 0 ≤ g)).map (fun u : Nat => D.int u) ++ [D.int (pl.length : Int)] = (((List.range' (i + 1) (pl.length - (i + 1))).filter fun u => decide (pl.getD u 0 ≤ g)) ++ [pl.length]).map fun u : Nat => D.int u := by simp
        rw [e]
        have : ((((List.range' (i + 1) (pl.length - (i + 1))).filter fun u => decide (pl.getD u 0 ≤ g)) ++ [pl.length]).map fun u : Nat => D.int u)[0]? = some (.int J) := by
          rw [List.getElem?_map, ← List.head?_eq_getElem?, jh]; rfl
        have := ix_lst this
        exact this
      have s1 := sum_cut ps i J
      have s2 := S_gen sz g i
      have st : sAsg (gN 9) (c2 gAdd (cComp [11] (iRng2 (c2 gAdd (cV 6) (cC (.int 1))) (c1 gLen (cV 4))) (gN 11) (tV (c2 gLe (c2 gIx (cV 4) (cV 11)) (cV 8))) (cV 11)) (cLst (aCons (c1 gLen (cV 4)) aNil))) [.sh (.tup (dI sz)), .sh (.int m), T, x3, .sh (.tup (dN pl)), .sh (.tup (dI ps)), .sh (.int i), x7, .sh (.int g), y9, x10, x11] M = .ok (.nx, [.sh (.tup (dI sz)), .sh (.int m), T, x3, .sh (.tup (dN pl)), .sh (.tup (dI ps)), .sh (.int i), x7, .sh (.int g), .sh (.lst (((List.range' (i + 1) (pl.length - (i + 1))).filter fun u => decide (pl.getD u 0 ≤ g)).map (fun u : Nat => D.int u) ++ [D.int pl.length])), x10, x11]) M := by
        simp [-gIx, -List.map_map, -List.getD_eq_getElem?_getD, l1, l2, l3, l4, uf, c, l5]
      by_cases w : psum ps i (J + 1) ≤ S sz g i
      · have w' : ¬ S sz g i < psum ps i (J + 1) := by omega
        refine ⟨[.sh (.tup (dI sz)), .sh (.int m), T, x3, .sh (.tup (dN pl)), .sh (.tup (dI ps)), .sh (.int i), x7, .sh (.int g), y9, x10, x11], _, by simp [gsN], .inl ⟨by rw [l2Turn, sSeq, st]; simp [-gIx, -List.getD_eq_getElem?_getD, ixJ, s1, s2, w']; exact ⟨rfl, rfl, rfl⟩, ⟨_, _, _, rfl⟩, fun t J' ht j' => ?_⟩⟩
        by_cases c : t < i
        · exact ok t J' c j'
        · have : t = i := by omega
          subst this
          rw [Joined.uniq j' jj, gd]; exact w
      · have w' : S sz g i < psum ps i (J + 1) := by omega
        refine ⟨[.sh (.tup (dI sz)), .sh (.int m), T, x3, .sh (.tup (dN pl)), .sh (.tup (dI ps)), .sh (.int i), x7, .sh (.int g), y9, x10, x11], _, by simp [gsN], .inr ⟨by rw [l2Turn, sSeq, st]; simp [-gIx, -List.getD_eq_getElem?_getD, ixJ, s1, s2, w']; rfl, fun z => ?_⟩⟩
        have := z i J (by omega) jj
        rw [gd] at this
        exact w this)
    [.sh (.tup (dI sz)), .sh (.int m), T, x3, .sh (.tup (dN pl)), .sh (.tup (dI ps)), x6, x7, x8, x9, x10, x11] ⟨⟨_, _, _, rfl⟩, fun t J ht => by omega⟩
  have en : 0 + ((List.range pl.length).zip pl).length = sz.length := by simp [hl]
  rw [en] at go
  rcases go with ⟨E', g1, _, ok⟩ | ⟨E', g1, bad⟩
  · exact .inl ⟨E', g1, ok⟩
  · exact .inr ⟨E', g1, bad⟩
theorem p60 : gPow (.int 10) (.int 60) = some (.int 1000000000000000000000000000000000000000000000000000000000000) := by rfl
theorem ints_of {c : Int} : ∀ {es : List D}, es.all (wi 0 c) = true → ∃ ps, es = dI ps ∧ ∀ r ∈ ps, 0 ≤ r
  | [], _ => ⟨[], rfl, fun r hr => (nomatch hr)⟩
  | y :: es, hw => by
    rw [List.all_cons, Bool.and_eq_true] at hw
    obtain ⟨ps, e, h0⟩ := ints_of hw.2
    have := hw.1
    obtain ⟨v, rfl⟩ : ∃ v, y = .int v := by cases y <;> first | (cases this; done) | exact ⟨_, rfl⟩
    have v0 : 0 ≤ v := by simp [wi] at this; omega
    refine ⟨v :: ps, by rw [e]; rfl, fun r hr => ?_⟩
    rcases List.mem_cons.mp hr with rfl | hr
    · exact v0
    · exact h0 r hr
theorem e_law_burden_any {sz : List Int} (hs : Sz sz) {m : Nat} {d : D} (h : A2 d) (M : Mem) : ∃ b, F__law_is_burden [.tup (dI sz), .int m, d] M = .ok (.bl b) M ∧ (b = true ↔ ∃ pl ps, IsB sz m d pl ps) := by
  have l12 := hs.2.1
  have ty := ty_tup h.1
  have vw := view_seen h.1 M
  rw [lb_shape]
  cases ht : isTup d with
  | false =>
    rw [ht] at ty
    exact ⟨false, by simp [vw, ty], ⟨fun q => (nomatch q), fun ⟨pl, ps, e, _⟩ => by rw [e] at ht; cases ht⟩⟩
  | true =>
    rw [ht] at ty
    obtain ⟨ds, rfl⟩ : ∃ ds, d = .tup ds := by cases d <;> first | (cases ht; done) | exact ⟨_, rfl⟩
    by_cases ln : ds.length = 2
    · obtain ⟨a, c, rfl⟩ : ∃ a c, ds = [a, c] := by
        match ds, ln with
        | [a, c], _ => exact ⟨a, c, rfl⟩
      have ha : A1 a := h.at rfl (by simp)
      have hc : A1 c := h.at rfl (by simp)
      have x0 : gIx (.tup [a, c]) (.int 0) = some a := rfl
      have va := view_seen ha.1 M
      have vc := view_seen hc.1 M
      obtain ⟨b2, e2, i2⟩ := e_law_is_plan_any (n := sz.length) ha (by omega) M
      cases b2 with
      | false => exact ⟨false, by simp [-gIx, ty, x0, e2], ⟨fun q => (nomatch q), fun ⟨pl, ps, e, sp⟩ => by
          injection e with e; injection e with e _
          have := i2.mpr ⟨pl, e, sp.len, sp.plan⟩; cases this⟩⟩
      | true =>
        obtain ⟨pl, rfl, pn, pok⟩ := i2.mp rfl
        have tc := ty_tup hc.1
        have uniq : ∀ pl' ps, IsB sz m (.tup [.tup (dN pl), c]) pl' ps → pl' = pl ∧ c = .tup (dI ps) ∧ Spec sz m pl ps := by
          rintro pl' ps ⟨e, sp⟩
          injection e with e; injection e with e e'; injection e' with e' _
          injection e with e
          have := dN_inj e
          subst this
          exact ⟨rfl, e', sp⟩
        cases htc : isTup c with
        | false =>
          rw [htc] at tc
          exact ⟨false, by simp [-gIx, ty, x0, e2, gsN, vc, tc], ⟨fun q => (nomatch q), fun ⟨pl', ps, bb⟩ => by
            obtain ⟨_, ec, _⟩ := uniq pl' ps bb
            rw [ec] at htc; cases htc⟩⟩
        | true =>
          rw [htc] at tc
          obtain ⟨es, rfl⟩ : ∃ es, c = .tup es := by cases c <;> first | (cases htc; done) | exact ⟨_, rfl⟩
          obtain ⟨le, hy⟩ := hc.2 es rfl
          by_cases ln2 : es.length = sz.length
          · have ln2' : (es.length : Int) = sz.length := by omega
            have cw := compL_map (vs := [10]) (g := gN 10) (f := cCall0 (ifN 3 F__law_whole) (aCons (cV 10) (aCons (cC (.int 0)) (aCons (c2 gPow (cC (.int 10)) (cC (.int 60))) aNil)))) (E := [.sh (.tup (dI sz)), .sh (.int m), .sh (.tup [.tup (dN pl), .tup es]), .un, .sh (.tup (dN pl)), .sh (.tup es), .un, .un, .un, .un, .un, .un]) (M := M)
              (fun d : D => d) (fun d => D.bl (wi 0 1000000000000000000000000000000000000000000000000000000000000 d)) es fun y hy2 => ⟨_, rfl, by
                have := e_whole_any (hy y hy2).1 0 1000000000000000000000000000000000000000000000000000000000000 M
                simp [wipe, p60, this]⟩
            rw [List.map_id'] at cw
            have aw := gAll_map es (wi 0 1000000000000000000000000000000000000000000000000000000000000)
            cases hw : es.all (wi 0 1000000000000000000000000000000000000000000000000000000000000) with
            | false =>
              rw [hw] at aw
              refine ⟨false, by simp [-gIx, -List.map_map, ty, x0, e2, gsN, tc, ln2, cw, aw], ⟨fun q => (nomatch q), fun ⟨pl', ps, bb⟩ => ?_⟩⟩
              obtain ⟨_, ec, sp⟩ := uniq pl' ps bb
              injection ec with ec
              have : es.all (wi 0 1000000000000000000000000000000000000000000000000000000000000) = true := by
                rw [List.all_eq_true]
                intro y hy2
                rw [ec] at hy2
                obtain ⟨r, hr, rfl⟩ := List.mem_map.mp hy2
                obtain ⟨j, hj⟩ := List.mem_iff_getElem?.mp hr
                have r0 := (sp.rise j r hj).1
                have r1 := (hy (.int r) (by rw [ec]; exact List.mem_map_of_mem hr)).2 r rfl
                simp [wi]; omega
              rw [hw] at this; cases this
            | true =>
              rw [hw] at aw
              obtain ⟨ps, rfl, h0⟩ := ints_of hw
              have lp : ps.length = sz.length := by simpa using ln2
              have e3 := e_law_begins (pl := pl) (by omega) M
              have l1 := e_l1 (sz := sz) (ps := ps) (pl := pl) (m := m) (T := .sh (.tup [.tup (dN pl), .tup (dI ps)])) (M := M) pn lp (x6 := .un) (x7 := .un) (x8 := .un) (x9 := .un) (x10 := .un) (x11 := .un)
              have pd := pl_le pok
              have bi := bo_iff h0 hs.pos pn lp fun t _ => pd t
              have spec_of : (∀ j, j < sz.length → stN pl (j + 1) ≤ m ∧ ∀ r, ps[j]? = some r → 0 < r → stN pl j = m) → (∀ t J, t < sz.length → Joined pl t J → psum ps t (J + 1) ≤ S sz (pl.getD t 0) t) → Spec sz m pl ps := fun a b =>
                ⟨pn, pok, fun i hi => (a i hi).1, lp, fun i r hr => ⟨h0 r (List.mem_of_getElem? hr), fun r0 => (a i (by rw [← lp]; exact (List.getElem?_eq_some_iff.mp hr).1)).2 r hr r0⟩, bi.mpr b⟩
              have of_spec : ∀ pl' ps', IsB sz m (.tup [.tup (dN pl), .tup (dI ps)]) pl' ps' → (∀ j, j < sz.length → stN pl (j + 1) ≤ m ∧ ∀ r, ps[j]? = some r → 0 < r → stN pl j = m) ∧ (∀ t J, t < sz.length → Joined pl t J → psum ps t (J + 1) ≤ S sz (pl.getD t 0) t) := by
                intro pl' ps' bb
                obtain ⟨_, ec, sp⟩ := uniq pl' ps' bb
                injection ec with ec
                have := dI_inj ec
                subst this
                exact ⟨fun j hj => ⟨sp.wide j hj, fun r hr r0 => (sp.rise j r hr).2 r0⟩, bi.mp sp.bo⟩
              rcases l1 with ⟨E1, g1, ⟨y3, y6, y7, rfl⟩, ok1⟩ | ⟨E1, g1, bad1⟩
              · have l2 := e_l2 (sz := sz) (ps := ps) (pl := pl) (m := m) (T := .sh (.tup [.tup (dN pl), .tup (dI ps)])) (x3 := y3) (M := M) l12 pn lp (x6 := y6) (x7 := y7) (x8 := .un) (x9 := .un) (x10 := .un) (x11 := .un)
                rcases l2 with ⟨E2, g2, ok2⟩ | ⟨E2, g2, bad2⟩
                · refine ⟨true, ?_, ⟨fun _ => ⟨pl, ps, rfl, spec_of ok1 ok2⟩, fun _ => rfl⟩⟩
                  simp only [List.length_map, List.length_range] at g1 g2
                  simp [-gIx, -List.map_map, ty, x0, e2, gsN, tc, lp, cw, aw, e3, g1, g2]
                · refine ⟨false, ?_, ⟨fun q => (nomatch q), fun ⟨pl', ps', bb⟩ => (bad2 (of_spec pl' ps' bb).2).elim⟩⟩
                  simp only [List.length_map, List.length_range] at g1 g2
                  simp [-gIx, -List.map_map, ty, x0, e2, gsN, tc, lp, cw, aw, e3, g1, g2]
              · refine ⟨false, ?_, ⟨fun q => (nomatch q), fun ⟨pl', ps', bb⟩ => (bad1 (of_spec pl' ps' bb).1).elim⟩⟩
                simp only [List.length_map, List.length_range] at g1
                simp [-gIx, -List.map_map, ty, x0, e2, gsN, tc, lp, cw, aw, e3, g1]
          · have ln2' : ¬ ((es.length : Int) = sz.length) := by omega
            refine ⟨false, by simp [-gIx, ty, x0, e2, gsN, tc, ln2, ln2'], ⟨fun q => (nomatch q), fun ⟨pl', ps, bb⟩ => ?_⟩⟩
            obtain ⟨_, ec, sp⟩ := uniq pl' ps bb
            injection ec with ec
            rw [ec, List.length_map] at ln2
            exact (ln2 sp.plen).elim
    · have ln' : ¬ ((ds.length : Int) = 2) := by omega
      refine ⟨false, by simp [ty, ln, ln'], ⟨fun q => (nomatch q), fun ⟨pl, ps, e, _⟩ => ?_⟩⟩
      injection e with e
      rw [e] at ln
      exact (ln rfl).elim
end K75
namespace K75
open PySem J PM PB
theorem mem_cut {ds : List D} {lo hi : Option Int} {y : D} (h : y ∈ cutD ds lo hi) : y ∈ ds := List.mem_of_mem_drop (List.mem_of_mem_take h)
theorem len_cut (ds : List D) (lo hi : Option Int) : (cutD ds lo hi).length ≤ ds.length := by unfold cutD; rw [List.length_take, List.length_drop]; omega
theorem pickP {L : List D} {r : Int} (P : D → Prop) (h : ∀ x ∈ L, P x) (r0 : 0 ≤ r) (r1 : r < L.length) : ∃ x, gIx (.lst L) (.int r) = some x ∧ P x := by
  obtain ⟨k, rfl⟩ : ∃ k : Nat, r = k := ⟨r.toNat, by omega⟩
  have hk : k < L.length := by omega
  exact ⟨L[k], ix_lst (List.getElem?_eq_getElem hk), h _ (List.getElem_mem hk)⟩
def T (d : D) : Prop := A0 d ∧ A1 d ∧ A2 d
theorem T_tup {ds : List D} (h : ds.length ≤ 100) (t : ∀ d ∈ ds, T d) : T (.tup ds) :=
  ⟨⟨rfl, fun i e => nomatch e⟩, ⟨rfl, fun es e => by injection e with e; subst e; exact ⟨h, fun y hy => (t y hy).1⟩⟩, rfl, fun es e => by injection e with e; subst e; exact ⟨h, fun y hy => (t y hy).2.1⟩⟩
theorem T_flat {d : D} (h : seen d = true) (n : ∀ ds, d ≠ .tup ds) (i : ∀ i, d = .int i → i ≤ 1000000000000000000000000000000000000000000000000) : T d :=
  ⟨⟨h, i⟩, ⟨h, fun ds e => (n ds e).elim⟩, h, fun ds e => (n ds e).elim⟩
theorem T_non : T .non := T_flat rfl (fun _ e => nomatch e) fun _ e => nomatch e
theorem T_bl (b : Bool) : T (.bl b) := T_flat rfl (fun _ e => nomatch e) fun _ e => nomatch e
theorem T_str (x : Str) : T (.str x) := T_flat rfl (fun _ e => nomatch e) fun _ e => nomatch e
theorem T_lst (x : List D) : T (.lst x) := T_flat rfl (fun _ e => nomatch e) fun _ e => nomatch e
theorem T_dK (x : List (Key × D)) : T (.dK x) := T_flat rfl (fun _ e => nomatch e) fun _ e => nomatch e
theorem T_int {i : Int} (h : i ≤ 1000000000000000000000000000000000000000000000000) : T (.int i) := T_flat rfl (fun _ e => nomatch e) fun j e => by injection e with e; omega
/-- a thing, through and through -/
inductive G : D → Prop
  | non : G .non
  | bl (b : Bool) : G (.bl b)
  | str (x : Str) : G (.str x)
  | lst (x : List D) : G (.lst x)
  | dK (x : List (Key × D)) : G (.dK x)
  | int {i : Int} (h : i ≤ 1000000000000000000000000000000000000000000000000) : G (.int i)
  | tup {ds : List D} (h : ds.length ≤ 100) (t : ∀ d, d ∈ ds → G d) : G (.tup ds)
theorem G.T {d : D} (g : G d) : K75.T d := by
  induction g with
  | non => exact T_non
  | bl b => exact T_bl b
  | str x => exact T_str x
  | lst x => exact T_lst x
  | dK x => exact T_dK x
  | int h => exact T_int h
  | tup h t ih => exact T_tup h ih
theorem G.items {ds : List D} (g : G (.tup ds)) : ds.length ≤ 100 ∧ ∀ d ∈ ds, G d := by
  cases g with
  | tup h t => exact ⟨h, t⟩
def deepTurn : CS := (sAsg (gN 1) (c2 gIx (cLst (aCons (cTup (aCons (cV 1) aNil)) (aCons (cLst (aCons (cV 1) aNil)) (aCons (cSl (cTup (aCons (cV 1) (aCons (cV 1) aNil))) oNone (oSome (cC (.int 1)))) (aCons (cDK1 (cC (.int 0)) (cV 1)) aNil))))) (cCall0 (ifN 2 F__law_draw) (aCons (cV 0) (aCons (cC (.int 4)) aNil)))))
theorem deep_shape : F__law_deep = body 3 1 (sSeq (sAsg (gN 1) (c2 gIx (cLst (aCons (cC .non) (aCons (cC (.str "a")) (aCons (c1 gNeg (cC (.int 1))) (aCons cDK aNil))))) (cCall0 (ifN 2 F__law_draw) (aCons (cV 0) (aCons (cC (.int 4)) aNil))))) (sSeq (sFor (iRng (c2 gAdd (cC (.int 1)) (cCall0 (ifN 2 F__law_draw) (aCons (cV 0) (aCons (cC (.int 30)) aNil))))) (gN 2) deepTurn) (sRet (cV 1)))) := rfl
theorem e_deep {M : Mem} (hM : Hand M) : ∃ d M', F__law_deep [.loc 0] M = .ok d M' ∧ Hand M' ∧ G d := by
  obtain ⟨r1, M1, e1, hM1, a1, b1⟩ := e_draw M 4 hM (by decide) (by decide)
  obtain ⟨d1, p1, t1⟩ := pickP (L := [.non, .str "a", .int (-1), .dK []]) (r := r1) G (fun x hx => by
    simp at hx
    rcases hx with rfl | rfl | rfl | rfl
    · exact .non
    · exact .str _
    · exact .int (by decide)
    · exact .dK _) a1 (by simpa using b1)
  obtain ⟨r2, M2, e2, hM2, a2, b2⟩ := e_draw M1 30 hM1 (by decide) (by decide)
  obtain ⟨E', M', h1, hM', d, x2, rfl, t⟩ := forL_run (g := gN 2) (s := deepTurn) (fun i : Nat => D.int (i : Int))
    (fun i E M' => Hand M' ∧ ∃ d x2, E = [.sh (.loc 0), .sh d, x2] ∧ G d) (List.range (1 + r2).toNat) 0
    (fun i q E M' hq ⟨hM', d, x2, hE, t⟩ => by
      subst hE
      obtain ⟨r, M3, e3, hM3, a3, b3⟩ := e_draw M' 4 hM' (by decide) (by decide)
      have ct : cutD [d, d] none (some 1) = [d] := rfl
      obtain ⟨d', p, t'⟩ := pickP (L := [.tup [d], .lst [d], .tup [d], .dK [(.inl 0, d)]]) (r := r) G (fun x hx => by
        have tt : G (.tup [d]) := G.tup (by simp) fun y hy => by rw [List.mem_singleton.mp hy]; exact t
        simp at hx
        rcases hx with rfl | rfl | rfl | rfl
        · exact tt
        · exact .lst _
        · exact tt
        · exact .dK _) a3 (by simpa using b3)
      have l1 : 1 ≤ sizeMax := by decide
      have l2 : 2 ≤ sizeMax := by decide
      have l4 : 4 ≤ sizeMax := by decide
      exact ⟨[.sh (.loc 0), .sh d, .sh (.int q)], [.sh (.loc 0), .sh d', .sh (.int q)], M3, rfl, .inl (by simp [deepTurn, -gIx, l1, l2, l4, ct, e3, p]), hM3, d', _, rfl, t'⟩)
    [.sh (.loc 0), .sh d1, .un] M2 ⟨hM2, d1, _, rfl, t1⟩
  rw [← upFrom0] at h1
  have l4 : 4 ≤ sizeMax := by decide
  have l5 : (1 + r2).natAbs ≤ sizeMax := by unfold sizeMax; omega
  exact ⟨d, M', by rw [deep_shape]; simp [-gIx, gNeg, l4, e1, p1, e2, l5, h1], hM', t⟩
/-- a thing of two parts -/
def Apart (n : Nat) (d : D) : Prop := ∃ a c, d = .tup [.tup a, .tup c] ∧ a.length = n ∧ c.length = n
def isPart (n : Nat) : D → Bool
  | .tup es => decide ((es.length : Int) = n)
  | _ => false
theorem e_apart {sz : List Int} {d : D} (h : A2 d) (M : Mem) : ∃ b, F__law_is_apart [.tup (dI sz), d] M = .ok (.bl b) M ∧ (b = true → Apart sz.length d) := by
  have ty := ty_tup h.1
  have vw := view_seen h.1 M
  cases ht : isTup d with
  | false => rw [ht] at ty; exact ⟨false, by simp [F__law_is_apart, vw, ty], fun q => (nomatch q)⟩
  | true =>
    rw [ht] at ty
    obtain ⟨ds, rfl⟩ : ∃ ds, d = .tup ds := by cases d <;> first | (cases ht; done) | exact ⟨_, rfl⟩
    by_cases ln : ds.length = 2
    · obtain ⟨a, c, rfl⟩ : ∃ a c, ds = [a, c] := by
        match ds, ln with
        | [a, c], _ => exact ⟨a, c, rfl⟩
      have sa := (h.at rfl (show a ∈ [a, c] by simp)).1
      have sc := (h.at rfl (show c ∈ [a, c] by simp)).1
      have part : ∀ y : D, seen y = true → cAnd (c1 (gIsI "tuple") (cV 2)) (c2 gEq (c1 gLen (cV 2)) (c1 gLen (cV 0))) [.sh (.tup (dI sz)), .sh (.tup [a, c]), .sh y] M = .ok (.bl (isPart sz.length y)) M := by
        intro y sy
        have ty := ty_tup sy
        have vy := view_seen sy M
        cases y <;> first | (cases sy; done) | (simp [vy, ty, isTup, isPart]; done)
      have cp := compL_map (vs := [2]) (g := gN 2) (f := cAnd (c1 (gIsI "tuple") (cV 2)) (c2 gEq (c1 gLen (cV 2)) (c1 gLen (cV 0)))) (E := [.sh (.tup (dI sz)), .sh (.tup [a, c]), .un]) (M := M) (fun d : D => d) (fun y => D.bl (isPart sz.length y)) [a, c] fun y hy => ⟨_, rfl, by
        have : seen y = true := by simp at hy; rcases hy with rfl | rfl; exact sa; exact sc
        exact part y this⟩
      rw [List.map_id'] at cp
      have al := gAll_map [a, c] (isPart sz.length)
      simp only [List.map_cons, List.map_nil, List.all_cons, List.all_nil, Bool.and_true] at cp al
      refine ⟨_, by simp [F__law_is_apart, ty, cp, al, -cAnd]; rfl, fun q => ?_⟩
      rw [Bool.and_eq_true] at q
      obtain ⟨q1, q2⟩ := q
      obtain ⟨ea, rfl⟩ : ∃ ea, a = .tup ea := by cases a <;> first | (cases q1; done) | exact ⟨_, rfl⟩
      obtain ⟨ec, rfl⟩ : ∃ ec, c = .tup ec := by cases c <;> first | (cases q2; done) | exact ⟨_, rfl⟩
      exact ⟨ea, ec, rfl, by simp [isPart] at q1; omega, by simp [isPart] at q2; omega⟩
    · have ln' : ¬ ((ds.length : Int) = 2) := by omega
      exact ⟨false, by simp [F__law_is_apart, ty, ln, ln'], fun q => (nomatch q)⟩
end K75
namespace K75
open PySem J PM PB
theorem A2_pair {x y : D} (hx : G x) (hy : G y) : G (.tup [x, y]) := .tup (by simp) fun d hd => by
  simp at hd
  rcases hd with rfl | rfl
  · exact hx
  · exact hy
theorem p30 : gPow (.int 10) (.int 30) = some (.int 1000000000000000000000000000000) := by rfl
theorem p9 : gPow (.int 10) (.int 9) = some (.int 1000000000) := by rfl
/-- one item another -/
theorem A1_put {a : List D} {y : D} {k : Int} (h : G (.tup a)) (hl : a.length ≤ 12) (hy : G y) : G (.tup (cutD a none (some k) ++ (y :: cutD a (some (k + 1)) none))) := by
  refine .tup ?_ fun d hd => ?_
  · have := len_cut a none (some k)
    have := len_cut a (some (k + 1)) none
    rw [List.length_append, List.length_cons]; omega
  · rcases List.mem_append.mp hd with z | z
    · exact h.items.2 d (mem_cut z)
    · rcases List.mem_cons.mp z with rfl | z
      · exact hy
      · exact h.items.2 d (mem_cut z)
theorem A1_cut {a : List D} {lo hi : Option Int} (h : G (.tup a)) (hl : a.length ≤ 12) : G (.tup (cutD a lo hi)) :=
  .tup (by have := len_cut a lo hi; omega) fun d hd => h.items.2 d (mem_cut hd)
theorem e_bent {sz : List Int} (hs : Sz sz) {d : D} (h : G d) (hp : Apart sz.length d) {M : Mem} (hM : Hand M) : ∃ d' M', F__law_bent [.loc 0, .tup (dI sz), d] M = .ok d' M' ∧ Hand M' ∧ G d' := by
  have l12 := hs.2.1
  have l1 := hs.1
  obtain ⟨a, c, rfl, la, lc⟩ := hp
  have ha : G (.tup a) := h.items.2 _ (by simp)
  have hc : G (.tup c) := h.items.2 _ (by simp)
  obtain ⟨k0, M1, e1, hM1, a1, b1⟩ := e_draw M sz.length hM (by omega) (by omega)
  obtain ⟨k, rfl⟩ : ∃ k : Nat, k0 = k := ⟨k0.toNat, by omega⟩
  obtain ⟨s, M2, e2, hM2, a2, b2⟩ := e_draw M1 9 hM1 (by decide) (by decide)
  obtain ⟨o, M3, e3, hM3, a3, b3⟩ := e_draw M2 11 hM2 (by decide) (by decide)
  obtain ⟨odd, p3, t3⟩ := pickP (L := [.non, .bl true, .int (-1), .str "1", .tup [.int 1], .int 1000000000000000000000000000000, .int 1, .int 0, .int a.length, .dK [], .lst []]) (r := o) G (fun x hx => by
    simp at hx
    rcases hx with rfl | rfl | rfl | rfl | rfl | rfl | rfl | rfl | rfl | rfl | rfl
    · exact .non
    · exact .bl _
    · exact .int (by decide)
    · exact .str _
    · exact .tup (by simp) fun d hd => by rw [List.mem_singleton.mp hd]; exact .int (by decide)
    · exact .int (by decide)
    · exact .int (by decide)
    · exact .int (by decide)
    · exact .int (by omega)
    · exact .dK _
    · exact .lst _) a3 (by simpa using b3)
  have j1 : 1 ≤ sizeMax := by decide
  have j2 : 2 ≤ sizeMax := by decide
  have j3 : 3 ≤ sizeMax := by decide
  have j4 : 4 ≤ sizeMax := by decide
  have j0 : 0 ≤ sizeMax := by decide
  have j6 : 6 ≤ sizeMax := by decide
  have j8 : 8 ≤ sizeMax := by decide
  have j11 : 11 ≤ sizeMax := by decide
  have j14 : 14 ≤ sizeMax := by decide
  have gs : ∀ E : J.Env, gsN [gN 7, gN 8] [.tup a, .tup c] E = some ((E.set 7 (.sh (.tup a))).set 8 (.sh (.tup c))) := fun E => rfl
  have ga1 : (cutD a none (some (k : Int))).length + 1 ≤ sizeMax := by have := len_cut a none (some (k : Int)); unfold sizeMax; omega
  have gc1 : (cutD c none (some (k : Int))).length + 1 ≤ sizeMax := by have := len_cut c none (some (k : Int)); unfold sizeMax; omega
  have ga2 : (cutD a none (some (k : Int))).length + 1 + (cutD a (some ((k : Int) + 1)) none).length ≤ sizeMax := by have := len_cut a none (some (k : Int)); have := len_cut a (some ((k : Int) + 1)) none; unfold sizeMax; omega
  have gc2 : (cutD c none (some (k : Int))).length + 1 + (cutD c (some ((k : Int) + 1)) none).length ≤ sizeMax := by have := len_cut c none (some (k : Int)); have := len_cut c (some ((k : Int) + 1)) none; unfold sizeMax; omega
  have gc3 : c.length + 1 ≤ sizeMax := by unfold sizeMax; omega
  have k12 : s = 0 ∨ s = 1 ∨ s = 2 ∨ s = 3 ∨ s = 4 ∨ s = 5 ∨ s = 6 ∨ s = 7 ∨ s = 8 := by omega
  have c0 : ∀ ds : List D, G (.tup ds) → ds.length ≤ 12 → G (.tup (ds ++ [D.int 0])) := fun ds hd hl => .tup (by rw [List.length_append, List.length_singleton]; omega) fun d hd2 => by
    rcases List.mem_append.mp hd2 with z | z
    · exact hd.items.2 d z
    · rw [List.mem_singleton.mp z]; exact .int (by decide)
  have lst1 : ∀ x : List D, G (.lst x) := fun x => .lst x
  have more : s = 4 ∨ s = 5 ∨ s = 6 → ∃ d' M', F__law_bent [.loc 0, .tup (dI sz), .tup [.tup a, .tup c]] M = .ok d' M' ∧ Hand M' ∧ G d' := by
    intro hs3
    obtain ⟨r4, M4, e4, hM4, a4, b4⟩ := e_draw M3 4 hM3 (by decide) (by decide)
    have isz : gIx (.tup (dI sz)) (.int k) = some (.int (sz.getD k 0)) := ix_dI (by rw [List.getD_eq_getElem?_getD, List.getElem?_eq_getElem (by omega)]; rfl)
    have szb : sz.getD k 0 ≤ 1000000 := by
      rw [List.getD_eq_getElem?_getD, List.getElem?_eq_getElem (by omega)]
      exact (hs.2.2 _ (List.getElem_mem _)).2
    obtain ⟨mo, p4, t4⟩ := pickP (L := [.int 1, .int (-1), .int (sz.getD k 0), .int 2]) (r := r4) (fun d => ∃ v, d = .int v ∧ v ≤ 1000000) (fun x hx => by
      simp only [List.mem_cons, List.not_mem_nil, or_false] at hx
      rcases hx with rfl | rfl | rfl | rfl
      · exact ⟨_, rfl, by decide⟩
      · exact ⟨_, rfl, by decide⟩
      · exact ⟨_, rfl, szb⟩
      · exact ⟨_, rfl, by decide⟩) a4 (by simpa using b4)
    obtain ⟨v, rfl, vb⟩ := t4
    have ic : gIx (.tup c) (.int k) = some (c[k]'(by omega)) := by
      show (ixN c.length (k : Int)).bind (fun j => c[j]?) = _
      rw [ixN_nat _ _ (by omega)]
      exact List.getElem?_eq_getElem (by omega)
    have sy := (hc.items.2 _ (List.getElem_mem (by omega : k < c.length)))
    have ew := e_whole_any sy.T.1.1 0 1000000000 M4
    have n0 : ¬ s = 0 := by omega
    have n1 : ¬ s = 1 := by omega
    have n2 : ¬ s = 2 := by omega
    have n3 : ¬ s = 3 := by omega
    have n6 : ¬ 6 < s := by omega
    cases hw : wi 0 1000000000 (c[k]'(by omega)) with
    | false =>
      rw [hw] at ew
      exact ⟨_, M4, by simp [F__law_bent, -gIx, gNeg, gs, e1, e2, e3, p3, p30, p9, j0, j1, j2, j3, j4, j8, j11, n0, n1, n2, n3, n6, e4, isz, -List.getD_eq_getElem?_getD, p4, ic, ew, gc1, gc2]; rfl, hM4, A2_pair ha (A1_put hc (by omega) (.int (by omega)))⟩
    | true =>
      rw [hw] at ew
      obtain ⟨u, hu⟩ : ∃ u, (c[k]'(by omega)) = .int u := by
        cases q : (c[k]'(by omega)) <;> first | (rw [q] at hw; cases hw; done) | exact ⟨_, rfl⟩
      have ub : u ≤ 1000000000 := by rw [hu] at hw; simp [wi] at hw; omega
      rw [hu] at ew ic
      exact ⟨_, M4, by simp [F__law_bent, -gIx, gNeg, gs, e1, e2, e3, p3, p30, p9, j0, j1, j2, j3, j4, j8, j11, n0, n1, n2, n3, n6, e4, isz, -List.getD_eq_getElem?_getD, p4, ic, ew, gc1, gc2]; rfl, hM4, A2_pair ha (A1_put hc (by omega) (.int (by omega)))⟩
  have far : s = 7 ∨ s = 8 → ∃ d' M', F__law_bent [.loc 0, .tup (dI sz), .tup [.tup a, .tup c]] M = .ok d' M' ∧ Hand M' ∧ G d' := by
    intro hs3
    obtain ⟨r4, M4, e4, hM4, a4, b4⟩ := e_draw M3 ((k : Int) + 1) hM3 (by omega) (by omega)
    have n0 : ¬ s = 0 := by omega
    have n1 : ¬ s = 1 := by omega
    have n2 : ¬ s = 2 := by omega
    have n3 : ¬ s = 3 := by omega
    have n6 : 6 < s := by omega
    exact ⟨_, M4, by simp [F__law_bent, -gIx, gNeg, gs, e1, e2, e3, p3, p30, j0, j1, j2, j3, j4, j8, j11, n0, n1, n2, n3, n6, e4, ga1, ga2]; rfl, hM4, A2_pair (A1_put ha (by omega) (.int (by omega))) hc⟩
  rcases k12 with rfl | rfl | rfl | rfl | q | q | q | q | q
  · obtain ⟨dd, M4, e4, hM4, t4⟩ := e_deep hM3
    obtain ⟨r5, M5, e5, hM5, a5, b5⟩ := e_draw M4 14 hM4 (by decide) (by decide)
    have c1 : cutD [D.tup a, D.tup c] none (some 1) = [.tup a] := rfl
    obtain ⟨x, p5, t5⟩ := pickP (L := [.non, .tup [], .tup a, .lst [.tup a, .tup c], .tup [.tup a, .lst c], .tup [.lst a, .tup c], .tup [.tup c, .tup a], .tup [.tup a, .tup c, .int 0], .tup [.tup a], .str "burden", .int 0, .dK [], dd, .bl true]) (r := r5) G (fun x hx => by
      simp at hx
      rcases hx with rfl | rfl | rfl | rfl | rfl | rfl | rfl | rfl | rfl | rfl | rfl | rfl | rfl | rfl
      · exact .non
      · exact .tup (by simp) fun d hd => nomatch hd
      · exact ha
      · exact .lst _
      · exact A2_pair ha (lst1 _)
      · exact A2_pair (lst1 _) hc
      · exact A2_pair hc ha
      · exact .tup (by simp) fun d hd => by
          simp at hd
          rcases hd with rfl | rfl | rfl
          · exact ha
          · exact hc
          · exact .int (by decide)
      · exact .tup (by simp) fun d hd => by rw [List.mem_singleton.mp hd]; exact ha
      · exact .str _
      · exact .int (by decide)
      · exact .dK _
      · exact t4
      · exact .bl _) a5 (by simpa using b5)
    exact ⟨x, M5, by simp [F__law_bent, -gIx, gNeg, gs, e1, e2, e3, p3, p30, j0, j1, j2, j3, j4, j6, j8, j11, j14, c1, e4, e5, p5], hM5, t5⟩
  · exact ⟨_, M3, by simp [F__law_bent, -gIx, gNeg, gs, e1, e2, e3, p3, p30, j0, j1, j2, j3, j4, j8, j11, ga1, ga2]; rfl, hM3, A2_pair (A1_put ha (by omega) t3) hc⟩
  · exact ⟨_, M3, by simp [F__law_bent, -gIx, gNeg, gs, e1, e2, e3, p3, p30, j0, j1, j2, j3, j4, j8, j11, gc1, gc2]; rfl, hM3, A2_pair ha (A1_put hc (by omega) t3)⟩
  · obtain ⟨r4, M4, e4, hM4, a4, b4⟩ := e_draw M3 4 hM3 (by decide) (by decide)
    obtain ⟨x, p4, t4⟩ := pickP (L := [.tup [.tup (cutD a none (some (-1))), .tup c], .tup [.tup a, .tup (cutD c none (some (-1)))], .tup [.tup a, .tup (c ++ [.int 0])], .tup [.tup (cutD a (some 1) none), .tup (cutD c (some 1) none)]]) (r := r4) G (fun x hx => by
      simp only [List.mem_cons, List.not_mem_nil, or_false] at hx
      rcases hx with rfl | rfl | rfl | rfl
      · exact A2_pair (A1_cut ha (by omega)) hc
      · exact A2_pair ha (A1_cut hc (by omega))
      · exact A2_pair ha (c0 c hc (by omega))
      · exact A2_pair (A1_cut ha (by omega)) (A1_cut hc (by omega))) a4 (by simpa using b4)
    exact ⟨x, M4, by simp [F__law_bent, -gIx, gNeg, gs, e1, e2, e3, p3, p30, j0, j1, j2, j3, j4, j8, j11, gc3, e4, p4], hM4, t4⟩
  · exact more (.inl q)
  · exact more (.inr (.inl q))
  · exact more (.inr (.inr q))
  · exact far (.inl q)
  · exact far (.inr q)
end K75
namespace K75
open PySem J PM PB
theorem e_told {sz : List Int} (hs : Sz sz) {m : Nat} (hm : 1 ≤ m) (hm2 : m ≤ 30) {d : D} (g : G d) (M : Mem) : ∃ (b : Bool) (v : D), F__law_is_burden [.tup (dI sz), .int m, d] M = .ok (.bl b) M ∧ F_is_burden [.tup (dI sz), .int m, d] M = .ok (.bl b) M ∧ F__law_told [.tup (dI sz), .int m, d] M = .ok v M ∧
    ((b = false ∧ v = .str "none") ∨ (b = true ∧ ∃ x pl ps, d = .tup [x, .tup (dI ps)] ∧ v = .int (sz.sum + ps.sum) ∧ x = .tup (dN pl))) := by
  obtain ⟨b1, e1, i1⟩ := e_law_burden_any (m := m) hs g.T.2.2 M
  obtain ⟨b2, e2, i2⟩ := e_there_any (m := m) hs g.T.2.2 M
  have ck := e_check hs hm hm2 M
  have eb : b2 = b1 := by
    cases b1 with
    | true => exact i2.mpr (i1.mp rfl)
    | false =>
      cases b2 with
      | false => rfl
      | true => exact (i1.mpr (i2.mp rfl)).symm
  subst eb
  cases b2 with
  | false =>
    have w : F_weight [.tup (dI sz), .int m, d] M = .exc 0 [] M := by simp [F_weight, ck, e2]
    exact ⟨false, .str "none", e1, by simp [F_is_burden, ck, e2], by simp [F__law_told, w, tabM], .inl ⟨rfl, rfl⟩⟩
  | true =>
    obtain ⟨pl, ps, rfl, sp⟩ := i2.mp rfl
    have i1 : gIx (.tup [.tup (dN pl), .tup (dI ps)]) (.int 1) = some (.tup (dI ps)) := rfl
    have s1 := gSum_tup ps
    have s2 := gSum_tup sz
    have cm : ps.sum + sz.sum = sz.sum + ps.sum := Int.add_comm _ _
    have w : F_weight [.tup (dI sz), .int m, .tup [.tup (dN pl), .tup (dI ps)]] M = .ok (.int (sz.sum + ps.sum)) M := by simp [F_weight, -gIx, ck, e2, i1, s1, s2, cm]
    exact ⟨true, .int (sz.sum + ps.sum), e1, by simp [F_is_burden, ck, e2], by simp [F__law_told, w], .inr ⟨rfl, _, pl, ps, rfl, rfl, rfl⟩⟩
theorem bur_small {sz : List Int} (hs : Sz sz) {m h : Nat} {rs : List PB.R} {pl : List Nat} {ps : List Int} (hm : 1 ≤ m) (b : Bur sz m h rs pl ps) : h ≤ sz.length → ∀ r ∈ ps, r ≤ 100000000 := by
  induction b with
  | nil => intro _ r hr; cases hr
  | @step h rs pl ps p r g h0 hr hb hg ih =>
    intro hl v hv
    rcases List.mem_append.mp hv with z | z
    · exact ih (by omega) v z
    · rw [List.mem_singleton.mp z]
      by_cases c : 0 < r
      · have l := hr c
        obtain ⟨q, hq⟩ : ∃ q, q ∈ rs := by
          cases rs with
          | nil => simp at l; omega
          | cons q _ => exact ⟨q, by simp⟩
        have := hb q hq
        have bo := p.borne hs.pos (by omega) q hq
        have t := p.tile.mem q hq
        have := S_le hs t.2.1 (show q.e < sz.length by omega)
        omega
      · omega
theorem G_burden {sz : List Int} (hs : Sz sz) {m : Nat} (hm : 1 ≤ m) {rs : List PB.R} {pl : List Nat} {ps : List Int} (b : Bur sz m sz.length rs pl ps) (ok : PlanOk 0 [] pl) : G (.tup [.tup (dN pl), .tup (dI ps)]) := by
  have l := bur_len b
  have l12 := hs.2.1
  refine A2_pair (.tup (by simp; omega) fun d hd => ?_) (.tup (by simp; omega) fun d hd => ?_)
  · obtain ⟨n, hn, rfl⟩ := List.mem_map.mp hd
    obtain ⟨i, hi⟩ := List.mem_iff_getElem?.mp hn
    have := planOk_iff.mp ok i n hi
    have := (List.getElem?_eq_some_iff.mp hi).1
    exact .int (by omega)
  · obtain ⟨n, hn, rfl⟩ := List.mem_map.mp hd
    have := bur_small hs hm b (Nat.le_refl _) n hn
    exact .int (by omega)
abbrev chTurn : CS := (sIf (tV (cCall0 (ifN 2 F__law_is_apart) (aCons (cV 3) (aCons (cV 7) aNil)))) (sAsg (gN 7) (cCall0 (ifN 3 F__law_bent) (aCons (cV 1) (aCons (cV 3) (aCons (cV 7) aNil))))) sNil)
abbrev agTurn : CS := (sSeq (sAsg (gN 7) (cV 5)) (sSeq (sFor (iRng (cCall0 (ifN 2 F__law_draw) (aCons (cV 1) (aCons (cC (.int 3)) aNil)))) (gN 8) chTurn) (sSeq (sAsg (gN 9) (cCall0 (ifN 3 F__law_is_burden) (aCons (cV 3) (aCons (cV 4) (aCons (cV 7) aNil))))) (sSeq (sIf (tNot (tV (cCall0 (ifN 2 F__law_flag) (aCons (cCall0 (ifN 3 F_is_burden) (aCons (cV 3) (aCons (cV 4) (aCons (cV 7) aNil)))) (aCons (cV 9) aNil))))) (sRet (cC (.bl false))) sNil) (sIf (tV (c2 gNe (cCall0 (ifN 3 F__law_told) (aCons (cV 3) (aCons (cV 4) (aCons (cV 7) aNil)))) (cIf (tV (cV 9)) (c2 gAdd (c1 gSum (cV 3)) (c1 gSum (c2 gIx (cV 7) (cC (.int 1))))) (cC (.str "none"))))) (sRet (cC (.bl false))) sNil)))))
abbrev lawIn : CS := (sSeq (sAsg (gN 3) (cCall0 (ifN 3 F__law_sizes) (aCons (cV 1) (aCons (c2 gAdd (cC (.int 1)) (cCall0 (ifN 2 F__law_draw) (aCons (cV 1) (aCons (cC (.int 12)) aNil)))) (aCons (c2 gIx (cLst (aCons (cC (.int 1)) (aCons (cC (.int 3)) (aCons (cC (.int 9)) (aCons (c2 gPow (cC (.int 10)) (cC (.int 6))) aNil))))) (cCall0 (ifN 2 F__law_draw) (aCons (cV 1) (aCons (cC (.int 4)) aNil)))) aNil))))) (sSeq (sAsg (gN 4) (c2 gAdd (cC (.int 1)) (cCall0 (ifN 2 F__law_draw) (aCons (cV 1) (aCons (cC (.int 4)) aNil))))) (sSeq (sAsg (gN 5) (cTup (aCons (cCall0 (ifN 2 F_by_credits) (aCons (cV 3) (aCons (cV 4) aNil))) (aCons (cCall0 (ifN 2 F_raises) (aCons (cV 3) (aCons (cV 4) aNil))) aNil)))) (sSeq (sIf (tV (c2 gEq (cCall0 (ifN 2 F__law_draw) (aCons (cV 1) (aCons (cC (.int 2)) aNil))) (cC (.int 0)))) (sAsg (gN 5) (cCall0 (ifN 3 F__law_drawn_burden) (aCons (cV 1) (aCons (cV 3) (aCons (cV 4) aNil))))) sNil) (sFor (iRng (cC (.int 3))) (gN 6) agTurn)))))
theorem law_shape : F_law = body 10 1 (sSeq (sAsg (gN 1) (cCall0 (ifN 1 F__law_hand) (aCons (cV 0) aNil))) (sSeq (sFor (iRng (cC (.int 4))) (gN 2) lawIn) (sRet (cC (.bl true))))) := rfl
theorem e_ch {sz : List Int} (hs : Sz sz) {s0 s2 s4 s5 s6 s8 s9 : Sl} {d : D} (g : G d) {M : Mem} (hM : Hand M) (k : Nat) : ∃ d' s8' M', forL (gN 8) chTurn (upFrom 0 k) [s0, .sh (.loc 0), s2, .sh (.tup (dI sz)), s4, s5, s6, .sh d, s8, s9] M = .ok (.nx, [s0, .sh (.loc 0), s2, .sh (.tup (dI sz)), s4, s5, s6, .sh d', s8', s9]) M' ∧ Hand M' ∧ G d' := by
  obtain ⟨E', M', h1, hM', d', s8', rfl, g'⟩ := forL_run (g := gN 8) (s := chTurn) (fun i : Nat => D.int (i : Int))
    (fun i E M' => Hand M' ∧ ∃ d' s8', E = [s0, .sh (.loc 0), s2, .sh (.tup (dI sz)), s4, s5, s6, .sh d', s8', s9] ∧ G d') (List.range k) 0
    (fun i q E M' hq ⟨hM', d', s8', hE, g'⟩ => by
      subst hE
      obtain ⟨b, e1, ap⟩ := e_apart (sz := sz) g'.T.2.2 M'
      refine ⟨[s0, .sh (.loc 0), s2, .sh (.tup (dI sz)), s4, s5, s6, .sh d', .sh (.int q), s9], ?_⟩
      cases b with
      | false => exact ⟨_, M', rfl, .inl (by simp [e1]; rfl), hM', d', _, rfl, g'⟩
      | true =>
        obtain ⟨d2, M2, e2, hM2, g2⟩ := e_bent hs g' (ap rfl) hM'
        exact ⟨_, M2, rfl, .inl (by simp [e1, e2]; rfl), hM2, d2, _, rfl, g2⟩)
    [s0, .sh (.loc 0), s2, .sh (.tup (dI sz)), s4, s5, s6, .sh d, s8, s9] M ⟨hM, d, _, rfl, g⟩
  rw [← upFrom0] at h1
  exact ⟨d', s8', M', h1, hM', g'⟩
theorem e_ag {sz : List Int} (hs : Sz sz) {m : Nat} (hm : 1 ≤ m) (hm2 : m ≤ 30) {s0 s2 s6 s7 s8 s9 : Sl} {d : D} (g : G d) {M : Mem} (hM : Hand M) : ∃ s7' s8' s9' M', agTurn [s0, .sh (.loc 0), s2, .sh (.tup (dI sz)), .sh (.int m), .sh d, s6, s7, s8, s9] M = .ok (.nx, [s0, .sh (.loc 0), s2, .sh (.tup (dI sz)), .sh (.int m), .sh d, s6, s7', s8', s9']) M' ∧ Hand M' := by
  obtain ⟨r, M1, e1, hM1, a1, b1⟩ := e_draw M 3 hM (by decide) (by decide)
  obtain ⟨k, rfl⟩ : ∃ k : Nat, r = k := ⟨r.toNat, by omega⟩
  obtain ⟨d', s8', M2, e2, hM2, g2⟩ := e_ch hs (s0 := s0) (s2 := s2) (s4 := .sh (.int m)) (s5 := .sh d) (s6 := s6) (s8 := s8) (s9 := s9) g hM1 k
  obtain ⟨b, v, t1, t2, t3, t4⟩ := e_told hs hm hm2 g2 M2
  have kk : k ≤ sizeMax := by unfold sizeMax; omega
  have fl : F__law_flag [.bl b, .bl b] M2 = .ok (.bl true) M2 := by
    cases b <;> simp [F__law_flag, gEq, flatD, eqD]
  rcases t4 with ⟨rfl, rfl⟩ | ⟨rfl, x, pl, ps, rfl, rfl, rfl⟩
  · have ns : gNe (.str "none") (.str "none") = some (.bl false) := by simp [gNe]
    exact ⟨_, _, _, M2, by simp [e1, kk, e2, t1, t2, t3, fl, ns]; exact ⟨rfl, rfl, rfl⟩, hM2⟩
  · have i1 : gIx (.tup [.tup (dN pl), .tup (dI ps)]) (.int 1) = some (.tup (dI ps)) := rfl
    have s1 := gSum_tup ps
    have s2 := gSum_tup sz
    exact ⟨_, _, _, M2, by simp [-gIx, e1, kk, e2, t1, t2, t3, fl, i1, s1, s2]; exact ⟨rfl, rfl, rfl⟩, hM2⟩
theorem e_ags {sz : List Int} (hs : Sz sz) {m : Nat} (hm : 1 ≤ m) (hm2 : m ≤ 30) {s0 s2 s6 s7 s8 s9 : Sl} {d : D} (g : G d) {M : Mem} (hM : Hand M) : ∃ s6' s7' s8' s9' M', forL (gN 6) agTurn (upFrom 0 3) [s0, .sh (.loc 0), s2, .sh (.tup (dI sz)), .sh (.int m), .sh d, s6, s7, s8, s9] M = .ok (.nx, [s0, .sh (.loc 0), s2, .sh (.tup (dI sz)), .sh (.int m), .sh d, s6', s7', s8', s9']) M' ∧ Hand M' := by
  obtain ⟨E', M', h1, hM', s6', s7', s8', s9', rfl⟩ := forL_run (g := gN 6) (s := agTurn) (fun i : Nat => D.int (i : Int))
    (fun i E M' => Hand M' ∧ ∃ s6' s7' s8' s9', E = [s0, .sh (.loc 0), s2, .sh (.tup (dI sz)), .sh (.int m), .sh d, s6', s7', s8', s9']) (List.range 3) 0
    (fun i q E M' hq ⟨hM', s6', s7', s8', s9', hE⟩ => by
      subst hE
      obtain ⟨t7, t8, t9, M2, e, hM2⟩ := e_ag hs hm hm2 (s0 := s0) (s2 := s2) (s6 := .sh (.int q)) (s7 := s7') (s8 := s8') (s9 := s9') g hM'
      exact ⟨_, _, M2, rfl, .inl e, hM2, _, _, _, _, rfl⟩)
    [s0, .sh (.loc 0), s2, .sh (.tup (dI sz)), .sh (.int m), .sh d, s6, s7, s8, s9] M ⟨hM, _, _, _, _, rfl⟩
  rw [← upFrom0] at h1
  exact ⟨s6', s7', s8', s9', M', h1, hM'⟩
theorem pick4 (a b c d : Int) (r : Int) (h1 : 0 ≤ r) (h2 : r < 4) : ∃ x, gIx (.lst [.int a, .int b, .int c, .int d]) (.int r) = some (.int x) ∧ (x = a ∨ x = b ∨ x = c ∨ x = d) := by
  have : r = 0 ∨ r = 1 ∨ r = 2 ∨ r = 3 := by omega
  rcases this with rfl | rfl | rfl | rfl
  · exact ⟨a, rfl, .inl rfl⟩
  · exact ⟨b, rfl, .inr (.inl rfl)⟩
  · exact ⟨c, rfl, .inr (.inr (.inl rfl))⟩
  · exact ⟨d, rfl, .inr (.inr (.inr rfl))⟩
theorem e_lawIn (s0 s2 s3 s4 s5 s6 s7 s8 s9 : Sl) (M : Mem) (hM : Hand M) : ∃ a3 a4 a5 a6 a7 a8 a9 M', lawIn [s0, .sh (.loc 0), s2, s3, s4, s5, s6, s7, s8, s9] M = .ok (.nx, [s0, .sh (.loc 0), s2, a3, a4, a5, a6, a7, a8, a9]) M' ∧ Hand M' := by
  obtain ⟨r1, M1, e1, hM1, a1, b1⟩ := e_draw M 12 hM (by omega) (by omega)
  obtain ⟨r2, M2, e2, hM2, a2, b2⟩ := e_draw M1 4 hM1 (by decide) (by decide)
  obtain ⟨x2, p2, q2⟩ := pick4 1 3 9 1000000 r2 a2 b2
  obtain ⟨sz, M3, e3, hM3, hl, hs⟩ := e_sizes M2 (1 + r1.toNat) x2 hM2 (by omega) (by omega) (by omega) (by omega)
  obtain ⟨r4, M4, e4, hM4, a4, b4⟩ := e_draw M3 4 hM3 (by decide) (by decide)
  have hm : 1 ≤ 1 + r4.toNat := by omega
  have hm2 : 1 + r4.toNat ≤ 30 := by omega
  have z1 : (((1 + r1.toNat : Nat)) : Int) = 1 + r1 := by omega
  have z4 : (((1 + r4.toNat : Nat)) : Int) = 1 + r4 := by omega
  obtain ⟨pl, ps, rs, c, eb, er, x⟩ := e_by_credits hs hm hm2 M4
  obtain ⟨r5, M5, e5, hM5, a5, b5⟩ := e_draw M4 2 hM4 (by decide) (by decide)
  rw [z1] at e3
  rw [z4] at eb er
  have j2 : 2 ≤ sizeMax := by decide
  have j3 : 3 ≤ sizeMax := by decide
  have j4 : 4 ≤ sizeMax := by decide
  by_cases c5 : r5 = 0
  · obtain ⟨pl', ps', rs', M6, e6, hM6, b, st, c, p⟩ := e_drawn hs hm (by omega) M5 hM5
    have g := G_burden hs hm b p.planOk.1
    rw [z4] at e6
    obtain ⟨s6', s7', s8', s9', M7, e7, hM7⟩ := e_ags hs hm hm2 (s0 := s0) (s2 := s2) (s6 := s6) (s7 := s7) (s8 := s8) (s9 := s9) g hM6
    rw [z4] at e7
    exact ⟨_, _, _, _, _, _, _, M7, by simp [-gIx, e1, e2, p2, e3, e4, eb, er, e5, c5, e6, j2, j3, j4, e7]; exact ⟨rfl, rfl, rfl, rfl, rfl, rfl, rfl⟩, hM7⟩
  · have g := G_burden hs hm x.bur x.path.planOk.1
    obtain ⟨s6', s7', s8', s9', M7, e7, hM7⟩ := e_ags hs hm hm2 (s0 := s0) (s2 := s2) (s6 := s6) (s7 := s7) (s8 := s8) (s9 := s9) g hM5
    rw [z4] at e7
    exact ⟨_, _, _, _, _, _, _, M7, by simp [-gIx, e1, e2, p2, e3, e4, eb, er, e5, c5, j2, j3, j4, e7]; exact ⟨rfl, rfl, rfl, rfl, rfl, rfl, rfl⟩, hM7⟩
theorem law_true (ns : List Int) (h : ns.length ≤ 63) : ∃ M, F_law [.scr (ns.map .int)] [] = .ok (.bl true) M := by
  obtain ⟨M0, e0, hM0⟩ := e_hand ns
  obtain ⟨E', M', e1, a2, a3, a4, a5, a6, a7, a8, a9, rfl, hM'⟩ := forL_run (g := gN 2) (s := lawIn) (fun i : Nat => D.int (i : Int))
    (fun _ E M' => ∃ (a2 a3 a4 a5 a6 a7 a8 a9 : Sl), E = [.sh (.scr (ns.map .int)), .sh (.loc 0), a2, a3, a4, a5, a6, a7, a8, a9] ∧ Hand M') (List.range 4) 0
    (fun i q E M' hq ⟨a2, a3, a4, a5, a6, a7, a8, a9, hE, hM'⟩ => by
      subst hE
      obtain ⟨b3, b4, b5, b6, b7, b8, b9, M2, e, hM2⟩ := e_lawIn (.sh (.scr (ns.map .int))) (.sh (.int q)) a3 a4 a5 a6 a7 a8 a9 M' hM'
      exact ⟨_, _, M2, rfl, .inl e, _, b3, b4, b5, b6, b7, b8, b9, rfl, hM2⟩)
    [.sh (.scr (ns.map .int)), .sh (.loc 0), .un, .un, .un, .un, .un, .un, .un, .un] M0 ⟨_, _, _, _, _, _, _, _, rfl, hM0⟩
  rw [← upFrom0] at e1
  refine ⟨M', ?_⟩
  have l4 : 4 ≤ sizeMax := by decide
  have e0' : F__law_hand [.scr (ns.map .int)] [] = .ok (.loc 0) M0 := e0
  simp [law_shape, e0', l4, e1]
end K75
namespace K75
open PySem PySem.Spec L2 J PyProof.Rows

def top (i : Nat) : Stmt := PySem.Challenge.pw_joinshelf_k75_burdens_judged_and_spoiled.main.body.getD i (.Pass ⟨0, 0, 0, 0⟩)

structure Tx (K : PySem.W.Frag) (mg : Str → Option Value) : Prop where
  b_abs : mg "abs" = none
  b_all : mg "all" = none
  b_any : mg "any" = none
  b_bool : mg "bool" = none
  b_enumerate : mg "enumerate" = none
  b_int : mg "int" = none
  b_isinstance : mg "isinstance" = none
  b_len : mg "len" = none
  b_list : mg "list" = none
  b_min : mg "min" = none
  b_range : mg "range" = none
  b_sum : mg "sum" = none
  b_tuple : mg "tuple" = none
  n_MOST_RUNS : NumX mg "MOST_RUNS" 30
  n_MOST_SIZE : NumX mg "MOST_SIZE" 1000000
  n_MOST_SIZES : NumX mg "MOST_SIZES" 40
  x_NoBurden : ExcX K mg ct 0 "NoBurden"
  e_NoBurden_NoBurden : ExmX K mg ct 0 0 true
  f__law_hand : FunX K mg "_law_hand" (top 32) ["_law_script"]
  f__law_draw : FunX K mg "_law_draw" (top 33) ["_law_hand_here", "_law_many"]
  f__law_sizes : FunX K mg "_law_sizes" (top 38) ["_law_hand_here", "_law_hours", "_law_most"]
  f_is_integer : FunX K mg "is_integer" (top 6) ["thing"]
  f_is_within : FunX K mg "is_within" (top 7) ["thing", "least", "most"]
  f_check_sizes : FunX K mg "check_sizes" (top 20) ["thing"]
  f_check_number : FunX K mg "check_number" (top 9) ["thing", "least", "most"]
  f_check_most : FunX K mg "check_most" (top 12) ["most"]
  f_check_sizes_and_most : FunX K mg "check_sizes_and_most" (top 21) ["sizes", "most"]
  f_raised : FunX K mg "raised" (top 22) ["runs"]
  f_led_by_credits : FunX K mg "led_by_credits" (top 23) ["sizes", "most"]
  f_raises : FunX K mg "raises" (top 25) ["sizes", "most"]
  f_by_credits : FunX K mg "by_credits" (top 24) ["sizes", "most"]
  f__law_plan : FunX K mg "_law_plan" (top 41) ["_law_hand_here", "_law_hours", "_law_most"]
  f__law_drawn_burden : FunX K mg "_law_drawn_burden" (top 42) ["_law_hand_here", "_law_sizes_here", "_law_most"]
  f__law_is_apart : FunX K mg "_law_is_apart" (top 43) ["_law_sizes_here", "_law_thing"]
  f__law_deep : FunX K mg "_law_deep" (top 35) ["_law_hand_here"]
  f__law_whole : FunX K mg "_law_whole" (top 37) ["_law_thing", "_law_least", "_law_most"]
  f__law_bent : FunX K mg "_law_bent" (top 44) ["_law_hand_here", "_law_sizes_here", "_law_thing"]
  f__law_is_plan : FunX K mg "_law_is_plan" (top 39) ["_law_hours", "_law_thing"]
  f__law_begins : FunX K mg "_law_begins" (top 36) ["_law_plan_here"]
  f__law_is_burden : FunX K mg "_law_is_burden" (top 40) ["_law_sizes_here", "_law_most", "_law_thing"]
  f__law_flag : FunX K mg "_law_flag" (top 34) ["_law_told_here", "_law_due"]
  f_begins_next : FunX K mg "begins_next" (top 15) ["begins", "begin"]
  f_is_plan_of : FunX K mg "is_plan_of" (top 14) ["hours", "thing"]
  f_is_pair : FunX K mg "is_pair" (top 8) ["thing"]
  f_begins_behind : FunX K mg "begins_behind" (top 16) ["plan"]
  f_are_raises : FunX K mg "are_raises" (top 27) ["shelves", "most", "thing"]
  f_are_borne : FunX K mg "are_borne" (top 26) ["sizes", "plan", "burdens"]
  f_is_burden_there : FunX K mg "is_burden_there" (top 28) ["sizes", "most", "thing"]
  f_is_burden : FunX K mg "is_burden" (top 29) ["sizes", "most", "thing"]
  f_weight : FunX K mg "weight" (top 30) ["sizes", "most", "thing"]
  f__law_told : FunX K mg "_law_told" (top 45) ["_law_sizes_here", "_law_most", "_law_thing"]
  f_law : FunX K mg "law" (top 46) ["_law_script"]

section
variable {P : Program} {w : World} {K : PySem.W.Frag} {mg : Str → Option Value} {base : Heap} {k : Nat}

theorem sc__law_hand : FnScope ["_law_script", "_law_cells", "_law_cell"] ["_law_script"] (defScope (top 32)) := ⟨rfl, rfl, rfl, by decide +kernel, rfl, by decide +kernel, by decide +kernel⟩

theorem ok__law_hand (T : Tx K mg) : DefOk P w K mg base ct 1 "_law_hand" 1 F__law_hand :=
  def_ok T.f__law_hand sc__law_hand rfl rfl (by decide) fun f cdv A outer s0 H E hr =>
    have nd := sc__law_hand.nd
    (ss_cons (s_setLc 1 rfl nd (sw_true rfl rfl rfl (by decide +kernel)) (own := [("_law_cell", 2)]) (gt := (gName 2)) (pi_seq (pf_sl (PE.o (pf_v 0)) part_none (part_some pf_int))) (blkOk_by rfl) (fun _ _ _ _ _ => (pg_n 2 nd)) (fun _ _ _ _ _ => ptsf_nil) (fun _ _ _ _ _ => (pf_b1 cf_abs T.b_abs bb_abs (PE.o (pf_ty1 cf_int T.b_int bb_int (PE.o (pf_v 2))))))) (ss_one (s_ret (pf_new (n_lst (paf_cons (pf_v 1) (paf_cons pf_int (paf_cons pf_int (paf_cons (pf_bin of_add (PE.o pf_int) (PE.o (pf_b1 cf_len T.b_len bb_len (PE.o (pf_v 1))))) (paf_cons pf_int paf_nil))))))))))

theorem sc__law_draw : FnScope ["_law_hand_here", "_law_many", "_law_number", "_law_cell", "_law_digit"] ["_law_hand_here", "_law_many"] (defScope (top 33)) := ⟨rfl, rfl, rfl, by decide +kernel, rfl, by decide +kernel, by decide +kernel⟩

theorem ok__law_draw (T : Tx K mg) : DefOk P w K mg base ct 1 "_law_draw" 2 F__law_draw :=
  def_ok T.f__law_draw sc__law_draw rfl rfl (by decide) fun f cdv A outer s0 H E hr =>
    have nd := sc__law_draw.nd
    (ss_cons (s_if (PW.pt (pw_and' (pt_cmp' (of_eq hr.units) (PE.o (pf_ix (hu_of hr) (PE.o (pf_v 0)) (PE.o pf_int))) (PE.o pf_int) (nomark _)) (pw_and1' (pt_cmp' of_lt (PE.o (pf_ix (hu_of hr) (PE.o (pf_v 0)) (PE.o pf_int))) (PE.o (pf_b1 cf_len T.b_len bb_len (PE.o (pf_ix (hu_of hr) (PE.o (pf_v 0)) (PE.o pf_int))))) (nomark _))))) (ss_cons (s_set 3 nd (pf_ix (hu_of hr) (PE.o (pf_ix (hu_of hr) (PE.o (pf_v 0)) (PE.o pf_int))) (PE.o (pf_ix (hu_of hr) (PE.o (pf_v 0)) (PE.o pf_int))))) (ss_cons (s_setL (pr_loc (pf_v 0)) pf_int (pf_bin of_add (PE.o (pf_ix (hu_of hr) (PE.o (pf_v 0)) (PE.o pf_int))) (PE.o pf_int))) (ss_cons (s_setL (pr_loc (pf_v 0)) pf_int (pf_bin of_mod (PE.o (pf_ty1 cf_int T.b_int bb_int (PE.o (pf_bin of_add (PE.o (pf_bin of_add (PE.o (pf_bin of_mul (PE.o (pf_ix (hu_of hr) (PE.o (pf_v 0)) (PE.o pf_int))) (PE.o pf_int))) (PE.o (pf_v 3)))) (PE.o pf_int))))) (PE.o pf_int))) (ss_one (s_if (pt_cmp' of_ge (PE.o (pf_v 3)) (PE.o (pf_bin of_pow (PE.o pf_int) (PE.o pf_int))) (nomark _)) (ss_one (s_setL (pr_loc (pf_v 0)) pf_int (pf_v 3))) ss_nil))))) ss_nil) (ss_cons (s_if (pt_cmp' of_gt (PE.o (pf_ix (hu_of hr) (PE.o (pf_v 0)) (PE.o pf_int))) (PE.o pf_int) (nomark _)) (ss_cons (s_set 4 nd (pf_bin of_mod (PE.o (pf_ty1 cf_int T.b_int bb_int (PE.o (pf_ix (hu_of hr) (PE.o (pf_v 0)) (PE.o pf_int))))) (PE.o (pf_v 1)))) (ss_cons (s_setL (pr_loc (pf_v 0)) pf_int (pf_bin of_div (PE.o (pf_ix (hu_of hr) (PE.o (pf_v 0)) (PE.o pf_int))) (PE.o (pf_v 1)))) (ss_one (s_ret (pf_v 4))))) ss_nil) (ss_cons (s_setL (pr_loc (pf_v 0)) pf_int (pf_bin of_add (PE.o (pf_ix (hu_of hr) (PE.o (pf_v 0)) (PE.o pf_int))) (PE.o pf_int))) (ss_cons (s_set 2 nd (pf_bin of_mod (PE.o (pf_ty1 cf_int T.b_int bb_int (PE.o (pf_bin of_mul (PE.o (pf_ty1 cf_int T.b_int bb_int (PE.o (pf_bin of_add (PE.o (pf_ix (hu_of hr) (PE.o (pf_v 0)) (PE.o pf_int))) (PE.o (pf_bin of_mul (PE.o pf_int) (PE.o (pf_ix (hu_of hr) (PE.o (pf_v 0)) (PE.o pf_int))))))))) (PE.o pf_int))))) (PE.o pf_int))) (ss_cons (s_set 2 nd (pf_bin of_mod (PE.o (pf_ty1 cf_int T.b_int bb_int (PE.o (pf_bin of_mul (PE.o (pf_v 2)) (PE.o (pf_bin of_add (PE.o (pf_bin of_div (PE.o (pf_v 2)) (PE.o pf_int))) (PE.o pf_int))))))) (PE.o pf_int))) (ss_cons (s_set 2 nd (pf_bin of_mod (PE.o (pf_ty1 cf_int T.b_int bb_int (PE.o (pf_bin of_mul (PE.o (pf_v 2)) (PE.o (pf_bin of_add (PE.o (pf_bin of_div (PE.o (pf_v 2)) (PE.o pf_int))) (PE.o pf_int))))))) (PE.o pf_int))) (ss_one (s_ret (pf_bin of_mod (PE.o (pf_ty1 cf_int T.b_int bb_int (PE.o (pf_bin of_div (PE.o (pf_v 2)) (PE.o pf_int))))) (PE.o (pf_v 1)))))))))))

theorem sc__law_sizes : FnScope ["_law_hand_here", "_law_hours", "_law_most", "_law_hour"] ["_law_hand_here", "_law_hours", "_law_most"] (defScope (top 38)) := ⟨rfl, rfl, rfl, by decide +kernel, rfl, by decide +kernel, by decide +kernel⟩

theorem ok__law_sizes (T : Tx K mg) : DefOk P w K mg base ct 2 "_law_sizes" 3 F__law_sizes :=
  def_ok T.f__law_sizes sc__law_sizes rfl rfl (by decide) fun f cdv A outer s0 H E hr =>
    have nd := sc__law_sizes.nd
    (ss_one (s_ret (pf_ty1 cf_tuple T.b_tuple bb_tuple (PE.o (pf_n (n_comp (own := [("_law_hour", 3)]) (gt := (gName 3)) rfl nd (pi_rng T.b_range (pf_v 1)) (blkOk_by rfl) (fun _ _ _ _ _ => (pg_n 3 nd)) (fun _ _ _ _ _ => ptsf_nil) (fun _ _ _ _ _ => (pf_bin of_add (PE.o pf_int) (PE.o (pf_call0 hr ((ok__law_draw T).mono (by omega)) (paf_cons (pf_v 0) (paf_cons (pf_v 2) paf_nil))))))))))))

theorem sc_is_integer : FnScope ["thing"] ["thing"] (defScope (top 6)) := ⟨rfl, rfl, rfl, by decide +kernel, rfl, by decide +kernel, by decide +kernel⟩

theorem ok_is_integer (T : Tx K mg) : DefOk P w K mg base ct 1 "is_integer" 1 F_is_integer :=
  def_ok T.f_is_integer sc_is_integer rfl rfl (by decide) fun f cdv A outer s0 H E hr =>
    have nd := sc_is_integer.nd
    (ss_one (s_ret (pf_and (pf_isi (n := "int") (by decide) T.b_isinstance T.b_int bb_int (PE.o (pf_v 0))) (pf_one (pf_not (pf_isi (n := "bool") (by decide) T.b_isinstance T.b_bool bb_bool (PE.o (pf_v 0))))))))

theorem sc_is_within : FnScope ["thing", "least", "most"] ["thing", "least", "most"] (defScope (top 7)) := ⟨rfl, rfl, rfl, by decide +kernel, rfl, by decide +kernel, by decide +kernel⟩

theorem ok_is_within (T : Tx K mg) : DefOk P w K mg base ct 2 "is_within" 3 F_is_within :=
  def_ok T.f_is_within sc_is_within rfl rfl (by decide) fun f cdv A outer s0 H E hr =>
    have nd := sc_is_within.nd
    (ss_one (s_ret (pf_and (pf_call0 hr ((ok_is_integer T).mono (by omega)) (paf_cons (pf_v 0) paf_nil)) (pf_one (pf_ch of_le of_le (PE.o (pf_v 1)) (PE.o (pf_v 0)) (PE.o (pf_v 2)))))))

theorem sc_check_sizes : FnScope ["thing", "size"] ["thing"] (defScope (top 20)) := ⟨rfl, rfl, rfl, by decide +kernel, rfl, by decide +kernel, by decide +kernel⟩

theorem ok_check_sizes (T : Tx K mg) : DefOk P w K mg base ct 3 "check_sizes" 1 F_check_sizes :=
  def_ok T.f_check_sizes sc_check_sizes rfl rfl (by decide) fun f cdv A outer s0 H E hr =>
    have nd := sc_check_sizes.nd
    (ss_cons (s_if (PW.pt (pw_or' (pt_not' (pt_v (pf_isi (n := "tuple") (by decide) T.b_isinstance T.b_tuple bb_tuple (PE.o (pf_v 0))))) (pw_or1' (pt_not' (pt_ch of_le of_le (PE.o pf_int) (PE.o (pf_b1 cf_len T.b_len bb_len (PE.o (pf_v 0)))) (PE.o (pf_gl T.n_MOST_SIZES))))))) (ss_one s_never) ss_nil) (ss_one (s_if (pt_not' (pt_v (pf_b1 (cf_all rfl) T.b_all bb_all (PE.o (pf_n (n_comp (own := [("size", 1)]) (gt := (gName 1)) rfl nd (pi_seq (pf_v 0)) (blkOk_by rfl) (fun _ _ _ _ _ => (pg_n 1 nd)) (fun _ _ _ _ _ => ptsf_nil) (fun _ _ _ _ _ => (pf_call0 hr ((ok_is_within T).mono (by omega)) (paf_cons (pf_v 1) (paf_cons pf_int (paf_cons (pf_gl T.n_MOST_SIZE) paf_nil))))))))))) (ss_one s_never) ss_nil)))

theorem sc_check_number : FnScope ["thing", "least", "most"] ["thing", "least", "most"] (defScope (top 9)) := ⟨rfl, rfl, rfl, by decide +kernel, rfl, by decide +kernel, by decide +kernel⟩

theorem ok_check_number (T : Tx K mg) : DefOk P w K mg base ct 3 "check_number" 3 F_check_number :=
  def_ok T.f_check_number sc_check_number rfl rfl (by decide) fun f cdv A outer s0 H E hr =>
    have nd := sc_check_number.nd
    (ss_one (s_if (pt_not' (pt_v (pf_call0 hr ((ok_is_within T).mono (by omega)) (paf_cons (pf_v 0) (paf_cons (pf_v 1) (paf_cons (pf_v 2) paf_nil)))))) (ss_one s_never) ss_nil))

theorem sc_check_most : FnScope ["most"] ["most"] (defScope (top 12)) := ⟨rfl, rfl, rfl, by decide +kernel, rfl, by decide +kernel, by decide +kernel⟩

theorem ok_check_most (T : Tx K mg) : DefOk P w K mg base ct 4 "check_most" 1 F_check_most :=
  def_ok T.f_check_most sc_check_most rfl rfl (by decide) fun f cdv A outer s0 H E hr =>
    have nd := sc_check_most.nd
    (ss_one (s_expr (pf_call0 hr ((ok_check_number T).mono (by omega)) (paf_cons (pf_v 0) (paf_cons pf_int (paf_cons (pf_gl T.n_MOST_RUNS) paf_nil))))))

theorem sc_check_sizes_and_most : FnScope ["sizes", "most"] ["sizes", "most"] (defScope (top 21)) := ⟨rfl, rfl, rfl, by decide +kernel, rfl, by decide +kernel, by decide +kernel⟩

theorem ok_check_sizes_and_most (T : Tx K mg) : DefOk P w K mg base ct 5 "check_sizes_and_most" 2 F_check_sizes_and_most :=
  def_ok T.f_check_sizes_and_most sc_check_sizes_and_most rfl rfl (by decide) fun f cdv A outer s0 H E hr =>
    have nd := sc_check_sizes_and_most.nd
    (ss_cons (s_expr (pf_call0 hr ((ok_check_sizes T).mono (by omega)) (paf_cons (pf_v 0) paf_nil))) (ss_one (s_expr (pf_call0 hr ((ok_check_most T).mono (by omega)) (paf_cons (pf_v 1) paf_nil)))))

theorem sc_raised : FnScope ["runs", "least", "begin", "size", "credit"] ["runs"] (defScope (top 22)) := ⟨rfl, rfl, rfl, by decide +kernel, rfl, by decide +kernel, by decide +kernel⟩

theorem ok_raised (T : Tx K mg) : DefOk P w K mg base ct 1 "raised" 1 F_raised :=
  def_ok T.f_raised sc_raised rfl rfl (by decide) fun f cdv A outer s0 H E hr =>
    have nd := sc_raised.nd
    (ss_cons (s_set 1 nd (pf_b1 (cf_min rfl) T.b_min bb_min (PE.o (pf_n (n_comp (own := [("begin", 2), ("size", 3), ("credit", 4)]) (gt := (gTup K 3 (gCons (gName 2) (gCons (gName 3) (gCons (gName 4) gNil))))) rfl nd (pi_seq (pf_v 0)) (blkOk_by rfl) (fun _ _ _ _ _ => (pg_t rfl (pgs_c (pg_n 2 nd) (pgs_c (pg_n 3 nd) (pgs_c (pg_n 4 nd) pgs_n))))) (fun _ _ _ _ _ => ptsf_nil) (fun _ _ _ _ _ => (pf_bin of_sub (PE.o (pf_v 3)) (PE.o (pf_v 4))))))))) (ss_one (s_ret (pf_tup (paf_cons (pf_n (n_comp (own := [("begin", 2), ("size", 3), ("credit", 4)]) (gt := (gTup K 3 (gCons (gName 2) (gCons (gName 3) (gCons (gName 4) gNil))))) rfl nd (pi_seq (pf_v 0)) (blkOk_by rfl) (fun _ _ _ _ _ => (pg_t rfl (pgs_c (pg_n 2 nd) (pgs_c (pg_n 3 nd) (pgs_c (pg_n 4 nd) pgs_n))))) (fun _ _ _ _ _ => ptsf_nil) (fun _ _ _ _ _ => (pf_tup (paf_cons (pf_v 2) (paf_cons (pf_v 3) (paf_cons (pf_bin of_add (PE.o (pf_v 4)) (PE.o (pf_v 1))) paf_nil))))))) (paf_cons (pf_v 1) paf_nil))))))

theorem sc_led_by_credits : FnScope ["sizes", "most", "plan", "raises_told", "runs", "hour", "coming", "begin", "more", "total", "run", "first", "size", "credit"] ["sizes", "most"] (defScope (top 23)) := ⟨rfl, rfl, rfl, by decide +kernel, rfl, by decide +kernel, by decide +kernel⟩

theorem ok_led_by_credits (T : Tx K mg) : DefOk P w K mg base ct 2 "led_by_credits" 2 F_led_by_credits :=
  def_ok T.f_led_by_credits sc_led_by_credits rfl rfl (by decide) fun f cdv A outer s0 H E hr =>
    have nd := sc_led_by_credits.nd
    (ss_cons (s_own 2 nd (n_lst paf_nil)) (ss_cons (s_own 3 nd (n_lst paf_nil)) (ss_cons (s_set 4 nd (pf_lst paf_nil)) (ss_cons (s_for (passes_of rfl) rfl (pi_enm T.b_enumerate (pf_v 0)) (pg_t rfl (pgs_c (pg_n 5 nd) (pgs_c (pg_n 6 nd) pgs_n))) (ss_cons (s_set 7 nd (pf_v 5)) (ss_cons (s_set 8 nd pf_int) (ss_cons (s_if (pt_cmp' (of_eq hr.units) (PE.o (pf_b1 cf_len T.b_len bb_len (PE.o (pf_v 4)))) (PE.o (pf_v 1)) (nomark _)) (ss_cons (s_asg (pf_call0 hr ((ok_raised T).mono (by omega)) (paf_cons (pf_v 4) paf_nil)) (pg_t rfl (pgs_c (pg_n 4 nd) (pgs_c (pg_n 8 nd) pgs_n)))) (ss_one (s_set 7 nd (pf_b1 (cf_min rfl) T.b_min bb_min (PE.o (pf_n (n_comp (own := [("first", 11), ("size", 12), ("credit", 13)]) (gt := (gTup K 3 (gCons (gName 11) (gCons (gName 12) (gCons (gName 13) gNil))))) rfl nd (pi_seq (pf_v 4)) (blkOk_by rfl) (fun _ _ _ _ _ => (pg_t rfl (pgs_c (pg_n 11 nd) (pgs_c (pg_n 12 nd) (pgs_c (pg_n 13 nd) pgs_n))))) (fun _ _ _ _ _ => (ptsf_one (pt_cmp' (of_eq hr.units) (PE.o (pf_v 12)) (PE.o (pf_v 13)) (nomark _)))) (fun _ _ _ _ _ => (pf_v 11))))))))) ss_nil) (ss_cons (s_set 9 nd (pf_bin of_add (PE.o (pf_b1 (cf_sum rfl) T.b_sum bb_sum (PE.o (pf_n (n_comp (own := [("first", 11), ("size", 12), ("credit", 13)]) (gt := (gTup K 3 (gCons (gName 11) (gCons (gName 12) (gCons (gName 13) gNil))))) rfl nd (pi_seq (pf_v 4)) (blkOk_by rfl) (fun _ _ _ _ _ => (pg_t rfl (pgs_c (pg_n 11 nd) (pgs_c (pg_n 12 nd) (pgs_c (pg_n 13 nd) pgs_n))))) (fun _ _ _ _ _ => (ptsf_one (pt_cmp' of_ge (PE.o (pf_v 11)) (PE.o (pf_v 7)) (nomark _)))) (fun _ _ _ _ _ => (pf_v 12))))))) (PE.o (pf_v 6)))) (ss_cons (s_set 4 nd (pf_bin of_add (PE.o (pf_n (n_comp (own := [("run", 10)]) (gt := (gName 10)) rfl nd (pi_seq (pf_v 4)) (blkOk_by rfl) (fun _ _ _ _ _ => (pg_n 10 nd)) (fun _ _ _ _ _ => (ptsf_one (pt_cmp' of_lt (PE.o (pf_ix (hu_of hr) (PE.o (pf_v 10)) (PE.o pf_int))) (PE.o (pf_v 7)) (nomark _)))) (fun _ _ _ _ _ => (pf_v 10))))) (PE.o (pf_lst (paf_cons (pf_tup (paf_cons (pf_v 7) (paf_cons (pf_v 9) (paf_cons pf_int paf_nil)))) paf_nil))))) (ss_cons (s_app (pr_own 2) (pf_v 7)) (ss_one (s_app (pr_own 3) (pf_v 8)))))))))) (ss_one (s_ret (pf_tup (paf_cons (pf_ty1 cf_tuple T.b_tuple bb_tuple (po_own 2)) (paf_cons (pf_ty1 cf_tuple T.b_tuple bb_tuple (po_own 3)) paf_nil)))))))))

theorem sc_raises : FnScope ["sizes", "most"] ["sizes", "most"] (defScope (top 25)) := ⟨rfl, rfl, rfl, by decide +kernel, rfl, by decide +kernel, by decide +kernel⟩

theorem ok_raises (T : Tx K mg) : DefOk P w K mg base ct 6 "raises" 2 F_raises :=
  def_ok T.f_raises sc_raises rfl rfl (by decide) fun f cdv A outer s0 H E hr =>
    have nd := sc_raises.nd
    (ss_cons (s_expr (pf_call0 hr ((ok_check_sizes_and_most T).mono (by omega)) (paf_cons (pf_v 0) (paf_cons (pf_v 1) paf_nil)))) (ss_one (s_ret (pf_ix (hu_of hr) (PE.o (pf_call0 hr ((ok_led_by_credits T).mono (by omega)) (paf_cons (pf_v 0) (paf_cons (pf_v 1) paf_nil)))) (PE.o pf_int)))))

theorem sc_by_credits : FnScope ["sizes", "most"] ["sizes", "most"] (defScope (top 24)) := ⟨rfl, rfl, rfl, by decide +kernel, rfl, by decide +kernel, by decide +kernel⟩

theorem ok_by_credits (T : Tx K mg) : DefOk P w K mg base ct 6 "by_credits" 2 F_by_credits :=
  def_ok T.f_by_credits sc_by_credits rfl rfl (by decide) fun f cdv A outer s0 H E hr =>
    have nd := sc_by_credits.nd
    (ss_cons (s_expr (pf_call0 hr ((ok_check_sizes_and_most T).mono (by omega)) (paf_cons (pf_v 0) (paf_cons (pf_v 1) paf_nil)))) (ss_one (s_ret (pf_ix (hu_of hr) (PE.o (pf_call0 hr ((ok_led_by_credits T).mono (by omega)) (paf_cons (pf_v 0) (paf_cons (pf_v 1) paf_nil)))) (PE.o pf_int)))))

theorem sc__law_plan : FnScope ["_law_hand_here", "_law_hours", "_law_most", "_law_begins_here", "_law_plan_here", "_law_hour", "_law_some", "_law_at"] ["_law_hand_here", "_law_hours", "_law_most"] (defScope (top 41)) := ⟨rfl, rfl, rfl, by decide +kernel, rfl, by decide +kernel, by decide +kernel⟩

theorem ok__law_plan (T : Tx K mg) : DefOk P w K mg base ct 2 "_law_plan" 3 F__law_plan :=
  def_ok T.f__law_plan sc__law_plan rfl rfl (by decide) fun f cdv A outer s0 H E hr =>
    have nd := sc__law_plan.nd
    (ss_cons (s_set 3 nd (pf_tup paf_nil)) (ss_cons (s_set 4 nd (pf_tup paf_nil)) (ss_cons (s_for (passes_of rfl) rfl (pi_rng T.b_range (pf_v 1)) (pg_n 5 nd) (ss_cons (s_set 6 nd (pf_sl (PE.o (pf_bin of_add (PE.o (pf_v 3)) (PE.o (pf_tup (paf_cons (pf_v 5) paf_nil))))) part_none (part_some (pf_v 2)))) (ss_cons (s_set 7 nd (pf_if (pt_cmp' (of_eq hr.units) (PE.o (pf_call0 hr ((ok__law_draw T).mono (by omega)) (paf_cons (pf_v 0) (paf_cons pf_int paf_nil)))) (PE.o pf_int) (nomark _)) (pf_bin of_sub (PE.o (pf_b1 cf_len T.b_len bb_len (PE.o (pf_v 6)))) (PE.o pf_int)) (pf_call0 hr ((ok__law_draw T).mono (by omega)) (paf_cons (pf_v 0) (paf_cons (pf_b1 cf_len T.b_len bb_len (PE.o (pf_v 6))) paf_nil))))) (ss_cons (s_set 4 nd (pf_bin of_add (PE.o (pf_v 4)) (PE.o (pf_tup (paf_cons (pf_ix (hu_of hr) (PE.o (pf_v 6)) (PE.o (pf_v 7))) paf_nil))))) (ss_one (s_set 3 nd (pf_sl (PE.o (pf_v 6)) part_none (part_some (pf_bin of_add (PE.o (pf_v 7)) (PE.o pf_int)))))))))) (ss_one (s_ret (pf_v 4))))))

theorem sc__law_drawn_burden : FnScope ["_law_hand_here", "_law_sizes_here", "_law_most", "_law_plan_here", "_law_rises", "_law_runs", "_law_hour", "_law_begin", "_law_more", "_law_left", "_law_run"] ["_law_hand_here", "_law_sizes_here", "_law_most"] (defScope (top 42)) := ⟨rfl, rfl, rfl, by decide +kernel, rfl, by decide +kernel, by decide +kernel⟩

theorem ok__law_drawn_burden (T : Tx K mg) : DefOk P w K mg base ct 3 "_law_drawn_burden" 3 F__law_drawn_burden :=
  def_ok T.f__law_drawn_burden sc__law_drawn_burden rfl rfl (by decide) fun f cdv A outer s0 H E hr =>
    have nd := sc__law_drawn_burden.nd
    (ss_cons (s_set 3 nd (pf_call0 hr ((ok__law_plan T).mono (by omega)) (paf_cons (pf_v 0) (paf_cons (pf_b1 cf_len T.b_len bb_len (PE.o (pf_v 1))) (paf_cons (pf_v 2) paf_nil))))) (ss_cons (s_set 4 nd (pf_tup paf_nil)) (ss_cons (s_own 5 nd (n_lst paf_nil)) (ss_cons (s_for (passes_of rfl) rfl (pi_enm T.b_enumerate (pf_v 3)) (pg_t rfl (pgs_c (pg_n 6 nd) (pgs_c (pg_n 7 nd) pgs_n))) (ss_cons (s_set 8 nd pf_int) (ss_frz 5 (ss_cons (s_if (pt_cmp' (of_eq hr.units) (PE.o (pf_b1 cf_len T.b_len bb_len (PE.o (pf_v 5)))) (PE.o (pf_v 2)) (nomark _)) (ss_cons (s_set 9 nd (pf_b1 (cf_min rfl) T.b_min bb_min (PE.o (pf_n (n_comp (own := [("_law_run", 10)]) (gt := (gName 10)) rfl nd (pi_seq (pf_v 5)) (blkOk_by rfl) (fun _ _ _ _ _ => (pg_n 10 nd)) (fun _ _ _ _ _ => ptsf_nil) (fun _ _ _ _ _ => (pf_bin of_sub (PE.o (pf_ix (hu_of hr) (PE.o (pf_v 10)) (PE.o pf_int))) (PE.o (pf_ix (hu_of hr) (PE.o (pf_v 10)) (PE.o pf_int)))))))))) (ss_one (s_set 8 nd (pf_ix (hu_of hr) (PE.o (pf_lst (paf_cons pf_int (paf_cons (pf_v 9) (paf_cons (pf_call0 hr ((ok__law_draw T).mono (by omega)) (paf_cons (pf_v 0) (paf_cons (pf_bin of_add (PE.o (pf_v 9)) (PE.o pf_int)) paf_nil))) (paf_cons (pf_v 9) paf_nil)))))) (PE.o (pf_call0 hr ((ok__law_draw T).mono (by omega)) (paf_cons (pf_v 0) (paf_cons pf_int paf_nil)))))))) ss_nil) (ss_cons (s_ownLc 5 rfl nd (sw_true rfl rfl rfl (by decide +kernel)) (own := [("_law_run", 10)]) (gt := (gName 10)) (pi_seq (pf_v 5)) (blkOk_by rfl) (fun _ _ _ _ _ => (pg_n 10 nd)) (fun _ _ _ _ _ => (ptsf_one (pt_cmp' of_lt (PE.o (pf_ix (hu_of hr) (PE.o (pf_v 10)) (PE.o pf_int))) (PE.o (pf_v 7)) (nomark _)))) (fun _ _ _ _ _ => (pf_lst (paf_cons (pf_ix (hu_of hr) (PE.o (pf_v 10)) (PE.o pf_int)) (paf_cons (pf_ix (hu_of hr) (PE.o (pf_v 10)) (PE.o pf_int)) (paf_cons (pf_bin of_add (PE.o (pf_ix (hu_of hr) (PE.o (pf_v 10)) (PE.o pf_int))) (PE.o (pf_v 8))) paf_nil)))))) (ss_cons (s_app (pr_own 5) (pf_lst (paf_cons (pf_v 7) (paf_cons (pf_b1 (cf_sum rfl) T.b_sum bb_sum (PE.o (pf_sl (PE.o (pf_v 1)) (part_some (pf_v 7)) (part_some (pf_bin of_add (PE.o (pf_v 6)) (PE.o pf_int)))))) (paf_cons pf_int paf_nil))))) (ss_one (s_set 4 nd (pf_bin of_add (PE.o (pf_v 4)) (PE.o (pf_tup (paf_cons (pf_v 8) paf_nil)))))))))))) (ss_one (s_ret (pf_tup (paf_cons (pf_v 3) (paf_cons (pf_v 4) paf_nil)))))))))

theorem sc__law_is_apart : FnScope ["_law_sizes_here", "_law_thing", "_law_part"] ["_law_sizes_here", "_law_thing"] (defScope (top 43)) := ⟨rfl, rfl, rfl, by decide +kernel, rfl, by decide +kernel, by decide +kernel⟩

theorem ok__law_is_apart (T : Tx K mg) : DefOk P w K mg base ct 1 "_law_is_apart" 2 F__law_is_apart :=
  def_ok T.f__law_is_apart sc__law_is_apart rfl rfl (by decide) fun f cdv A outer s0 H E hr =>
    have nd := sc__law_is_apart.nd
    (ss_cons (s_if (PW.pt (pw_or' (pt_not' (pt_v (pf_isi (n := "tuple") (by decide) T.b_isinstance T.b_tuple bb_tuple (PE.o (pf_v 1))))) (pw_or1' (pt_cmp' (of_ne hr.units) (PE.o (pf_b1 cf_len T.b_len bb_len (PE.o (pf_v 1)))) (PE.o pf_int) (nomark _))))) (ss_one (s_ret pf_bl)) ss_nil) (ss_one (s_ret (pf_b1 (cf_all rfl) T.b_all bb_all (PE.o (pf_n (n_comp (own := [("_law_part", 2)]) (gt := (gName 2)) rfl nd (pi_seq (pf_v 1)) (blkOk_by rfl) (fun _ _ _ _ _ => (pg_n 2 nd)) (fun _ _ _ _ _ => ptsf_nil) (fun _ _ _ _ _ => (pf_and (pf_isi (n := "tuple") (by decide) T.b_isinstance T.b_tuple bb_tuple (PE.o (pf_v 2))) (pf_one (pf_cmp (of_eq hr.units) (PE.o (pf_b1 cf_len T.b_len bb_len (PE.o (pf_v 2)))) (PE.o (pf_b1 cf_len T.b_len bb_len (PE.o (pf_v 0)))) (nomark _))))))))))))

theorem sc__law_deep : FnScope ["_law_hand_here", "_law_found", "_law_turn"] ["_law_hand_here"] (defScope (top 35)) := ⟨rfl, rfl, rfl, by decide +kernel, rfl, by decide +kernel, by decide +kernel⟩

theorem ok__law_deep (T : Tx K mg) : DefOk P w K mg base ct 2 "_law_deep" 1 F__law_deep :=
  def_ok T.f__law_deep sc__law_deep rfl rfl (by decide) fun f cdv A outer s0 H E hr =>
    have nd := sc__law_deep.nd
    (ss_cons (s_set 1 nd (pf_ix (hu_of hr) (PE.o (pf_lst (paf_cons pf_non (paf_cons pf_str (paf_cons (pf_neg (PE.o pf_int)) (paf_cons (pf_n n_dK) paf_nil)))))) (PE.o (pf_call0 hr ((ok__law_draw T).mono (by omega)) (paf_cons (pf_v 0) (paf_cons pf_int paf_nil)))))) (ss_cons (s_for (passes_of rfl) rfl (pi_rng T.b_range (pf_bin of_add (PE.o pf_int) (PE.o (pf_call0 hr ((ok__law_draw T).mono (by omega)) (paf_cons (pf_v 0) (paf_cons pf_int paf_nil)))))) (pg_n 2 nd) (ss_one (s_set 1 nd (pf_ix (hu_of hr) (PE.o (pf_lst (paf_cons (pf_tup (paf_cons (pf_v 1) paf_nil)) (paf_cons (pf_lst (paf_cons (pf_v 1) paf_nil)) (paf_cons (pf_sl (PE.o (pf_tup (paf_cons (pf_v 1) (paf_cons (pf_v 1) paf_nil)))) part_none (part_some pf_int)) (paf_cons (pf_n (n_disp1K pf_int (pf_v 1))) paf_nil)))))) (PE.o (pf_call0 hr ((ok__law_draw T).mono (by omega)) (paf_cons (pf_v 0) (paf_cons pf_int paf_nil)))))))) (ss_one (s_ret (pf_v 1)))))

theorem sc__law_whole : FnScope ["_law_thing", "_law_least", "_law_most"] ["_law_thing", "_law_least", "_law_most"] (defScope (top 37)) := ⟨rfl, rfl, rfl, by decide +kernel, rfl, by decide +kernel, by decide +kernel⟩

theorem ok__law_whole (T : Tx K mg) : DefOk P w K mg base ct 1 "_law_whole" 3 F__law_whole :=
  def_ok T.f__law_whole sc__law_whole rfl rfl (by decide) fun f cdv A outer s0 H E hr =>
    have nd := sc__law_whole.nd
    (ss_one (s_ret (pf_and (pf_isi (n := "int") (by decide) T.b_isinstance T.b_int bb_int (PE.o (pf_v 0))) (pf_and (pf_not (pf_isi (n := "bool") (by decide) T.b_isinstance T.b_bool bb_bool (PE.o (pf_v 0)))) (pf_one (pf_ch of_le of_le (PE.o (pf_v 1)) (PE.o (pf_v 0)) (PE.o (pf_v 2))))))))

theorem sc__law_bent : FnScope ["_law_hand_here", "_law_sizes_here", "_law_thing", "_law_at", "_law_sort", "_law_odd", "_law_more", "_law_plan_here", "_law_rises", "_law_menu"] ["_law_hand_here", "_law_sizes_here", "_law_thing"] (defScope (top 44)) := ⟨rfl, rfl, rfl, by decide +kernel, rfl, by decide +kernel, by decide +kernel⟩

theorem ok__law_bent (T : Tx K mg) : DefOk P w K mg base ct 3 "_law_bent" 3 F__law_bent :=
  def_ok T.f__law_bent sc__law_bent rfl rfl (by decide) fun f cdv A outer s0 H E hr =>
    have nd := sc__law_bent.nd
    (ss_cons (s_asg (pf_v 2) (pg_t rfl (pgs_c (pg_n 7 nd) (pgs_c (pg_n 8 nd) pgs_n)))) (ss_cons (s_set 3 nd (pf_call0 hr ((ok__law_draw T).mono (by omega)) (paf_cons (pf_v 0) (paf_cons (pf_b1 cf_len T.b_len bb_len (PE.o (pf_v 1))) paf_nil)))) (ss_cons (s_set 4 nd (pf_call0 hr ((ok__law_draw T).mono (by omega)) (paf_cons (pf_v 0) (paf_cons pf_int paf_nil)))) (ss_cons (s_set 5 nd (pf_ix (hu_of hr) (PE.o (pf_lst (paf_cons pf_non (paf_cons pf_bl (paf_cons (pf_neg (PE.o pf_int)) (paf_cons pf_str (paf_cons (pf_tup (paf_cons pf_int paf_nil)) (paf_cons (pf_bin of_pow (PE.o pf_int) (PE.o pf_int)) (paf_cons pf_int (paf_cons pf_int (paf_cons (pf_b1 cf_len T.b_len bb_len (PE.o (pf_v 7))) (paf_cons (pf_n n_dK) (paf_cons (pf_lst paf_nil) paf_nil))))))))))))) (PE.o (pf_call0 hr ((ok__law_draw T).mono (by omega)) (paf_cons (pf_v 0) (paf_cons pf_int paf_nil)))))) (ss_cons (s_if (pt_cmp' (of_eq hr.units) (PE.o (pf_v 4)) (PE.o pf_int) (nomark _)) (ss_cons (s_set 9 nd (pf_lst (paf_cons pf_non (paf_cons (pf_tup paf_nil) (paf_cons (pf_v 7) (paf_cons (pf_ty1 cf_list T.b_list bb_list (PE.o (pf_v 2))) (paf_cons (pf_tup (paf_cons (pf_v 7) (paf_cons (pf_ty1 cf_list T.b_list bb_list (PE.o (pf_v 8))) paf_nil))) (paf_cons (pf_tup (paf_cons (pf_ty1 cf_list T.b_list bb_list (PE.o (pf_v 7))) (paf_cons (pf_v 8) paf_nil))) (paf_cons (pf_tup (paf_cons (pf_v 8) (paf_cons (pf_v 7) paf_nil))) (paf_cons (pf_bin of_add (PE.o (pf_v 2)) (PE.o (pf_tup (paf_cons pf_int paf_nil)))) paf_nil)))))))))) (ss_one (s_ret (pf_ix (hu_of hr) (PE.o (pf_bin of_add (PE.o (pf_v 9)) (PE.o (pf_lst (paf_cons (pf_sl (PE.o (pf_v 2)) part_none (part_some pf_int)) (paf_cons pf_str (paf_cons pf_int (paf_cons (pf_n n_dK) (paf_cons (pf_call0 hr ((ok__law_deep T).mono (by omega)) (paf_cons (pf_v 0) paf_nil)) (paf_cons pf_bl paf_nil)))))))))) (PE.o (pf_call0 hr ((ok__law_draw T).mono (by omega)) (paf_cons (pf_v 0) (paf_cons pf_int paf_nil)))))))) ss_nil) (ss_cons (s_if (pt_cmp' (of_eq hr.units) (PE.o (pf_v 4)) (PE.o pf_int) (nomark _)) (ss_one (s_ret (pf_tup (paf_cons (pf_bin of_add (PE.o (pf_bin of_add (PE.o (pf_sl (PE.o (pf_v 7)) part_none (part_some (pf_v 3)))) (PE.o (pf_tup (paf_cons (pf_v 5) paf_nil))))) (PE.o (pf_sl (PE.o (pf_v 7)) (part_some (pf_bin of_add (PE.o (pf_v 3)) (PE.o pf_int))) part_none))) (paf_cons (pf_v 8) paf_nil))))) ss_nil) (ss_cons (s_if (pt_cmp' (of_eq hr.units) (PE.o (pf_v 4)) (PE.o pf_int) (nomark _)) (ss_one (s_ret (pf_tup (paf_cons (pf_v 7) (paf_cons (pf_bin of_add (PE.o (pf_bin of_add (PE.o (pf_sl (PE.o (pf_v 8)) part_none (part_some (pf_v 3)))) (PE.o (pf_tup (paf_cons (pf_v 5) paf_nil))))) (PE.o (pf_sl (PE.o (pf_v 8)) (part_some (pf_bin of_add (PE.o (pf_v 3)) (PE.o pf_int))) part_none))) paf_nil))))) ss_nil) (ss_cons (s_if (pt_cmp' (of_eq hr.units) (PE.o (pf_v 4)) (PE.o pf_int) (nomark _)) (ss_cons (s_set 9 nd (pf_lst (paf_cons (pf_tup (paf_cons (pf_sl (PE.o (pf_v 7)) part_none (part_some (pf_neg (PE.o pf_int)))) (paf_cons (pf_v 8) paf_nil))) (paf_cons (pf_tup (paf_cons (pf_v 7) (paf_cons (pf_sl (PE.o (pf_v 8)) part_none (part_some (pf_neg (PE.o pf_int)))) paf_nil))) (paf_cons (pf_tup (paf_cons (pf_v 7) (paf_cons (pf_bin of_add (PE.o (pf_v 8)) (PE.o (pf_tup (paf_cons pf_int paf_nil)))) paf_nil))) (paf_cons (pf_tup (paf_cons (pf_sl (PE.o (pf_v 7)) (part_some pf_int) part_none) (paf_cons (pf_sl (PE.o (pf_v 8)) (part_some pf_int) part_none) paf_nil))) paf_nil)))))) (ss_one (s_ret (pf_ix (hu_of hr) (PE.o (pf_v 9)) (PE.o (pf_call0 hr ((ok__law_draw T).mono (by omega)) (paf_cons (pf_v 0) (paf_cons pf_int paf_nil)))))))) ss_nil) (ss_cons (s_if (pt_cmp' of_gt (PE.o (pf_v 4)) (PE.o pf_int) (nomark _)) (ss_one (s_ret (pf_tup (paf_cons (pf_bin of_add (PE.o (pf_bin of_add (PE.o (pf_sl (PE.o (pf_v 7)) part_none (part_some (pf_v 3)))) (PE.o (pf_tup (paf_cons (pf_call0 hr ((ok__law_draw T).mono (by omega)) (paf_cons (pf_v 0) (paf_cons (pf_bin of_add (PE.o (pf_v 3)) (PE.o pf_int)) paf_nil))) paf_nil))))) (PE.o (pf_sl (PE.o (pf_v 7)) (part_some (pf_bin of_add (PE.o (pf_v 3)) (PE.o pf_int))) part_none))) (paf_cons (pf_v 8) paf_nil))))) ss_nil) (ss_cons (s_set 6 nd (pf_ix (hu_of hr) (PE.o (pf_lst (paf_cons pf_int (paf_cons (pf_neg (PE.o pf_int)) (paf_cons (pf_ix (hu_of hr) (PE.o (pf_v 1)) (PE.o (pf_v 3))) (paf_cons pf_int paf_nil)))))) (PE.o (pf_call0 hr ((ok__law_draw T).mono (by omega)) (paf_cons (pf_v 0) (paf_cons pf_int paf_nil)))))) (ss_cons (s_if (pt_v (pf_call0 hr ((ok__law_whole T).mono (by omega)) (paf_cons (pf_ix (hu_of hr) (PE.o (pf_v 8)) (PE.o (pf_v 3))) (paf_cons pf_int (paf_cons (pf_bin of_pow (PE.o pf_int) (PE.o pf_int)) paf_nil))))) (ss_one (s_set 6 nd (pf_bin of_add (PE.o (pf_v 6)) (PE.o (pf_ix (hu_of hr) (PE.o (pf_v 8)) (PE.o (pf_v 3))))))) ss_nil) (ss_one (s_ret (pf_tup (paf_cons (pf_v 7) (paf_cons (pf_bin of_add (PE.o (pf_bin of_add (PE.o (pf_sl (PE.o (pf_v 8)) part_none (part_some (pf_v 3)))) (PE.o (pf_tup (paf_cons (pf_v 6) paf_nil))))) (PE.o (pf_sl (PE.o (pf_v 8)) (part_some (pf_bin of_add (PE.o (pf_v 3)) (PE.o pf_int))) part_none))) paf_nil))))))))))))))))

theorem sc__law_is_plan : FnScope ["_law_hours", "_law_thing", "_law_begins_here", "_law_hour", "_law_begin", "_law_one"] ["_law_hours", "_law_thing"] (defScope (top 39)) := ⟨rfl, rfl, rfl, by decide +kernel, rfl, by decide +kernel, by decide +kernel⟩

theorem ok__law_is_plan (T : Tx K mg) : DefOk P w K mg base ct 2 "_law_is_plan" 2 F__law_is_plan :=
  def_ok T.f__law_is_plan sc__law_is_plan rfl rfl (by decide) fun f cdv A outer s0 H E hr =>
    have nd := sc__law_is_plan.nd
    (ss_cons (s_if (PW.pt (pw_or' (pt_not' (pt_v (pf_isi (n := "tuple") (by decide) T.b_isinstance T.b_tuple bb_tuple (PE.o (pf_v 1))))) (pw_or1' (pt_cmp' (of_ne hr.units) (PE.o (pf_b1 cf_len T.b_len bb_len (PE.o (pf_v 1)))) (PE.o (pf_v 0)) (nomark _))))) (ss_one (s_ret pf_bl)) ss_nil) (ss_cons (s_set 2 nd (pf_tup paf_nil)) (ss_cons (s_for (passes_of rfl) rfl (pi_enm T.b_enumerate (pf_v 1)) (pg_t rfl (pgs_c (pg_n 3 nd) (pgs_c (pg_n 4 nd) pgs_n))) (ss_cons (s_if (PW.pt (pw_or' (pt_not' (pt_v (pf_call0 hr ((ok__law_whole T).mono (by omega)) (paf_cons (pf_v 4) (paf_cons pf_int (paf_cons (pf_v 3) paf_nil)))))) (pw_or1' (pt_cmp' (of_notIn (hu_of hr)) (PE.o (pf_v 4)) (PE.o (pf_bin of_add (PE.o (pf_v 2)) (PE.o (pf_tup (paf_cons (pf_v 3) paf_nil))))) (by rfl))))) (ss_one (s_ret pf_bl)) ss_nil) (ss_one (s_set 2 nd (pf_bin of_add (PE.o (pf_ty1 cf_tuple T.b_tuple bb_tuple (PE.o (pf_n (n_comp (own := [("_law_one", 5)]) (gt := (gName 5)) rfl nd (pi_seq (pf_v 2)) (blkOk_by rfl) (fun _ _ _ _ _ => (pg_n 5 nd)) (fun _ _ _ _ _ => (ptsf_one (pt_cmp' of_lt (PE.o (pf_v 5)) (PE.o (pf_v 4)) (nomark _)))) (fun _ _ _ _ _ => (pf_v 5))))))) (PE.o (pf_tup (paf_cons (pf_v 4) paf_nil)))))))) (ss_one (s_ret pf_bl)))))

theorem sc__law_begins : FnScope ["_law_plan_here", "_law_found", "_law_hour", "_law_begin", "_law_ahead", "_law_one"] ["_law_plan_here"] (defScope (top 36)) := ⟨rfl, rfl, rfl, by decide +kernel, rfl, by decide +kernel, by decide +kernel⟩

theorem ok__law_begins (T : Tx K mg) : DefOk P w K mg base ct 1 "_law_begins" 1 F__law_begins :=
  def_ok T.f__law_begins sc__law_begins rfl rfl (by decide) fun f cdv A outer s0 H E hr =>
    have nd := sc__law_begins.nd
    (ss_cons (s_own 1 nd (n_lst paf_nil)) (ss_cons (s_for (passes_of rfl) rfl (pi_enm T.b_enumerate (pf_v 0)) (pg_t rfl (pgs_c (pg_n 2 nd) (pgs_c (pg_n 3 nd) pgs_n))) (ss_cons (s_set 4 nd (pf_if (pt_cmp' of_gt (PE.o (pf_v 2)) (PE.o pf_int) (nomark _)) (pf_ix (hu_of hr) (po_own 1) (PE.o (pf_neg (PE.o pf_int)))) (pf_tup paf_nil))) (ss_one (s_app (pr_own 1) (pf_bin of_add (PE.o (pf_ty1 cf_tuple T.b_tuple bb_tuple (PE.o (pf_n (n_comp (own := [("_law_one", 5)]) (gt := (gName 5)) rfl nd (pi_seq (pf_v 4)) (blkOk_by rfl) (fun _ _ _ _ _ => (pg_n 5 nd)) (fun _ _ _ _ _ => (ptsf_one (pt_cmp' of_lt (PE.o (pf_v 5)) (PE.o (pf_v 3)) (nomark _)))) (fun _ _ _ _ _ => (pf_v 5))))))) (PE.o (pf_tup (paf_cons (pf_v 3) paf_nil)))))))) (ss_frz 1 (ss_one (s_ret (pf_v 1))))))

theorem sc__law_is_burden : FnScope ["_law_sizes_here", "_law_most", "_law_thing", "_law_ahead", "_law_plan_here", "_law_rises", "_law_hour", "_law_begins_here", "_law_begin", "_law_joined", "_law_more", "_law_later"] ["_law_sizes_here", "_law_most", "_law_thing"] (defScope (top 40)) := ⟨rfl, rfl, rfl, by decide +kernel, rfl, by decide +kernel, by decide +kernel⟩

theorem ok__law_is_burden (T : Tx K mg) : DefOk P w K mg base ct 3 "_law_is_burden" 3 F__law_is_burden :=
  def_ok T.f__law_is_burden sc__law_is_burden rfl rfl (by decide) fun f cdv A outer s0 H E hr =>
    have nd := sc__law_is_burden.nd
    (ss_cons (s_if (PW.pt (pw_or' (pt_not' (pt_v (pf_isi (n := "tuple") (by decide) T.b_isinstance T.b_tuple bb_tuple (PE.o (pf_v 2))))) (pw_or' (pt_cmp' (of_ne hr.units) (PE.o (pf_b1 cf_len T.b_len bb_len (PE.o (pf_v 2)))) (PE.o pf_int) (nomark _)) (pw_or1' (pt_not' (pt_v (pf_call0 hr ((ok__law_is_plan T).mono (by omega)) (paf_cons (pf_b1 cf_len T.b_len bb_len (PE.o (pf_v 0))) (paf_cons (pf_ix (hu_of hr) (PE.o (pf_v 2)) (PE.o pf_int)) paf_nil))))))))) (ss_one (s_ret pf_bl)) ss_nil) (ss_cons (s_asg (pf_v 2) (pg_t rfl (pgs_c (pg_n 4 nd) (pgs_c (pg_n 5 nd) pgs_n)))) (ss_cons (s_if (PW.pt (pw_or' (pt_not' (pt_v (pf_isi (n := "tuple") (by decide) T.b_isinstance T.b_tuple bb_tuple (PE.o (pf_v 5))))) (pw_or1' (pt_cmp' (of_ne hr.units) (PE.o (pf_b1 cf_len T.b_len bb_len (PE.o (pf_v 5)))) (PE.o (pf_b1 cf_len T.b_len bb_len (PE.o (pf_v 0)))) (nomark _))))) (ss_one (s_ret pf_bl)) ss_nil) (ss_cons (s_if (pt_not' (pt_v (pf_b1 (cf_all rfl) T.b_all bb_all (PE.o (pf_n (n_comp (own := [("_law_more", 10)]) (gt := (gName 10)) rfl nd (pi_seq (pf_v 5)) (blkOk_by rfl) (fun _ _ _ _ _ => (pg_n 10 nd)) (fun _ _ _ _ _ => ptsf_nil) (fun _ _ _ _ _ => (pf_call0 hr ((ok__law_whole T).mono (by omega)) (paf_cons (pf_v 10) (paf_cons pf_int (paf_cons (pf_bin of_pow (PE.o pf_int) (PE.o pf_int)) paf_nil))))))))))) (ss_one (s_ret pf_bl)) ss_nil) (ss_cons (s_set 3 nd pf_int) (ss_cons (s_for (passes_of rfl) rfl (pi_enm T.b_enumerate (pf_call0 hr ((ok__law_begins T).mono (by omega)) (paf_cons (pf_v 4) paf_nil))) (pg_t rfl (pgs_c (pg_n 6 nd) (pgs_c (pg_n 7 nd) pgs_n))) (ss_cons (s_if (PW.pt (pw_or' (pt_cmp' of_gt (PE.o (pf_b1 cf_len T.b_len bb_len (PE.o (pf_v 7)))) (PE.o (pf_v 1)) (nomark _)) (pw_or1' (PW.pt (pw_and' (pt_cmp' of_gt (PE.o (pf_ix (hu_of hr) (PE.o (pf_v 5)) (PE.o (pf_v 6)))) (PE.o pf_int) (nomark _)) (pw_and1' (pt_cmp' (of_ne hr.units) (PE.o (pf_v 3)) (PE.o (pf_v 1)) (nomark _)))))))) (ss_one (s_ret pf_bl)) ss_nil) (ss_one (s_set 3 nd (pf_b1 cf_len T.b_len bb_len (PE.o (pf_v 7))))))) (ss_cons (s_for (passes_of rfl) rfl (pi_enm T.b_enumerate (pf_v 4)) (pg_t rfl (pgs_c (pg_n 6 nd) (pgs_c (pg_n 8 nd) pgs_n))) (ss_cons (s_set 9 nd (pf_bin of_add (PE.o (pf_n (n_comp (own := [("_law_later", 11)]) (gt := (gName 11)) rfl nd (pi_rng2 T.b_range (pf_bin of_add (PE.o (pf_v 6)) (PE.o pf_int)) (pf_b1 cf_len T.b_len bb_len (PE.o (pf_v 4)))) (blkOk_by rfl) (fun _ _ _ _ _ => (pg_n 11 nd)) (fun _ _ _ _ _ => (ptsf_one (pt_cmp' of_le (PE.o (pf_ix (hu_of hr) (PE.o (pf_v 4)) (PE.o (pf_v 11)))) (PE.o (pf_v 8)) (nomark _)))) (fun _ _ _ _ _ => (pf_v 11))))) (PE.o (pf_lst (paf_cons (pf_b1 cf_len T.b_len bb_len (PE.o (pf_v 4))) paf_nil))))) (ss_one (s_if (pt_cmp' of_gt (PE.o (pf_b1 (cf_sum rfl) T.b_sum bb_sum (PE.o (pf_sl (PE.o (pf_v 5)) (part_some (pf_bin of_add (PE.o (pf_v 6)) (PE.o pf_int))) (part_some (pf_bin of_add (PE.o (pf_ix (hu_of hr) (PE.o (pf_v 9)) (PE.o pf_int))) (PE.o pf_int))))))) (PE.o (pf_b1 (cf_sum rfl) T.b_sum bb_sum (PE.o (pf_sl (PE.o (pf_v 0)) (part_some (pf_v 8)) (part_some (pf_bin of_add (PE.o (pf_v 6)) (PE.o pf_int))))))) (nomark _)) (ss_one (s_ret pf_bl)) ss_nil)))) (ss_one (s_ret pf_bl)))))))))

theorem sc__law_flag : FnScope ["_law_told_here", "_law_due"] ["_law_told_here", "_law_due"] (defScope (top 34)) := ⟨rfl, rfl, rfl, by decide +kernel, rfl, by decide +kernel, by decide +kernel⟩

theorem ok__law_flag (T : Tx K mg) : DefOk P w K mg base ct 1 "_law_flag" 2 F__law_flag :=
  def_ok T.f__law_flag sc__law_flag rfl rfl (by decide) fun f cdv A outer s0 H E hr =>
    have nd := sc__law_flag.nd
    (ss_one (s_ret (pf_and (pf_isi (n := "bool") (by decide) T.b_isinstance T.b_bool bb_bool (PE.o (pf_v 0))) (pf_one (pf_cmp (of_eq hr.units) (PE.o (pf_v 0)) (PE.o (pf_v 1)) (nomark _))))))

theorem sc_begins_next : FnScope ["begins", "begin", "one"] ["begins", "begin"] (defScope (top 15)) := ⟨rfl, rfl, rfl, by decide +kernel, rfl, by decide +kernel, by decide +kernel⟩

theorem ok_begins_next (T : Tx K mg) : DefOk P w K mg base ct 1 "begins_next" 2 F_begins_next :=
  def_ok T.f_begins_next sc_begins_next rfl rfl (by decide) fun f cdv A outer s0 H E hr =>
    have nd := sc_begins_next.nd
    (ss_one (s_ret (pf_bin of_add (PE.o (pf_ty1 cf_tuple T.b_tuple bb_tuple (PE.o (pf_n (n_comp (own := [("one", 2)]) (gt := (gName 2)) rfl nd (pi_seq (pf_v 0)) (blkOk_by rfl) (fun _ _ _ _ _ => (pg_n 2 nd)) (fun _ _ _ _ _ => (ptsf_one (pt_cmp' of_lt (PE.o (pf_v 2)) (PE.o (pf_v 1)) (nomark _)))) (fun _ _ _ _ _ => (pf_v 2))))))) (PE.o (pf_tup (paf_cons (pf_v 1) paf_nil))))))

theorem sc_is_plan_of : FnScope ["hours", "thing", "begins", "hour", "begin"] ["hours", "thing"] (defScope (top 14)) := ⟨rfl, rfl, rfl, by decide +kernel, rfl, by decide +kernel, by decide +kernel⟩

theorem ok_is_plan_of (T : Tx K mg) : DefOk P w K mg base ct 3 "is_plan_of" 2 F_is_plan_of :=
  def_ok T.f_is_plan_of sc_is_plan_of rfl rfl (by decide) fun f cdv A outer s0 H E hr =>
    have nd := sc_is_plan_of.nd
    (ss_cons (s_if (PW.pt (pw_or' (pt_not' (pt_v (pf_isi (n := "tuple") (by decide) T.b_isinstance T.b_tuple bb_tuple (PE.o (pf_v 1))))) (pw_or1' (pt_cmp' (of_ne hr.units) (PE.o (pf_b1 cf_len T.b_len bb_len (PE.o (pf_v 1)))) (PE.o (pf_v 0)) (nomark _))))) (ss_one (s_ret pf_bl)) ss_nil) (ss_cons (s_set 2 nd (pf_tup paf_nil)) (ss_cons (s_for (passes_of rfl) rfl (pi_enm T.b_enumerate (pf_v 1)) (pg_t rfl (pgs_c (pg_n 3 nd) (pgs_c (pg_n 4 nd) pgs_n))) (ss_cons (s_if (PW.pt (pw_or' (pt_not' (pt_v (pf_call0 hr ((ok_is_within T).mono (by omega)) (paf_cons (pf_v 4) (paf_cons pf_int (paf_cons (pf_v 3) paf_nil)))))) (pw_or1' (PW.pt (pw_and' (pt_cmp' (of_ne hr.units) (PE.o (pf_v 4)) (PE.o (pf_v 3)) (nomark _)) (pw_and1' (pt_cmp' (of_notIn (hu_of hr)) (PE.o (pf_v 4)) (PE.o (pf_v 2)) (by rfl)))))))) (ss_one (s_ret pf_bl)) ss_nil) (ss_one (s_set 2 nd (pf_call0 hr ((ok_begins_next T).mono (by omega)) (paf_cons (pf_v 2) (paf_cons (pf_v 4) paf_nil))))))) (ss_one (s_ret pf_bl)))))

theorem sc_is_pair : FnScope ["thing"] ["thing"] (defScope (top 8)) := ⟨rfl, rfl, rfl, by decide +kernel, rfl, by decide +kernel, by decide +kernel⟩

theorem ok_is_pair (T : Tx K mg) : DefOk P w K mg base ct 1 "is_pair" 1 F_is_pair :=
  def_ok T.f_is_pair sc_is_pair rfl rfl (by decide) fun f cdv A outer s0 H E hr =>
    have nd := sc_is_pair.nd
    (ss_one (s_ret (pf_and (pf_isi (n := "tuple") (by decide) T.b_isinstance T.b_tuple bb_tuple (PE.o (pf_v 0))) (pf_one (pf_cmp (of_eq hr.units) (PE.o (pf_b1 cf_len T.b_len bb_len (PE.o (pf_v 0)))) (PE.o pf_int) (nomark _))))))

theorem sc_begins_behind : FnScope ["plan", "found", "begins", "begin"] ["plan"] (defScope (top 16)) := ⟨rfl, rfl, rfl, by decide +kernel, rfl, by decide +kernel, by decide +kernel⟩

theorem ok_begins_behind (T : Tx K mg) : DefOk P w K mg base ct 2 "begins_behind" 1 F_begins_behind :=
  def_ok T.f_begins_behind sc_begins_behind rfl rfl (by decide) fun f cdv A outer s0 H E hr =>
    have nd := sc_begins_behind.nd
    (ss_cons (s_own 1 nd (n_lst paf_nil)) (ss_cons (s_set 2 nd (pf_tup paf_nil)) (ss_cons (s_for (passes_of rfl) rfl (pi_seq (pf_v 0)) (pg_n 3 nd) (ss_cons (s_set 2 nd (pf_call0 hr ((ok_begins_next T).mono (by omega)) (paf_cons (pf_v 2) (paf_cons (pf_v 3) paf_nil)))) (ss_one (s_app (pr_own 1) (pf_v 2))))) (ss_frz 1 (ss_one (s_ret (pf_v 1)))))))

theorem sc_are_raises : FnScope ["shelves", "most", "thing", "hour", "number", "stood"] ["shelves", "most", "thing"] (defScope (top 27)) := ⟨rfl, rfl, rfl, by decide +kernel, rfl, by decide +kernel, by decide +kernel⟩

theorem ok_are_raises (T : Tx K mg) : DefOk P w K mg base ct 2 "are_raises" 3 F_are_raises :=
  def_ok T.f_are_raises sc_are_raises rfl rfl (by decide) fun f cdv A outer s0 H E hr =>
    have nd := sc_are_raises.nd
    (ss_cons (s_if (PW.pt (pw_or' (pt_not' (pt_v (pf_isi (n := "tuple") (by decide) T.b_isinstance T.b_tuple bb_tuple (PE.o (pf_v 2))))) (pw_or1' (pt_cmp' (of_ne hr.units) (PE.o (pf_b1 cf_len T.b_len bb_len (PE.o (pf_v 2)))) (PE.o (pf_b1 cf_len T.b_len bb_len (PE.o (pf_v 0)))) (nomark _))))) (ss_one (s_ret pf_bl)) ss_nil) (ss_cons (s_for (passes_of rfl) rfl (pi_enm T.b_enumerate (pf_v 2)) (pg_t rfl (pgs_c (pg_n 3 nd) (pgs_c (pg_n 4 nd) pgs_n))) (ss_cons (s_set 5 nd (pf_if (pt_cmp' of_gt (PE.o (pf_v 3)) (PE.o pf_int) (nomark _)) (pf_b1 cf_len T.b_len bb_len (PE.o (pf_ix (hu_of hr) (PE.o (pf_v 0)) (PE.o (pf_bin of_sub (PE.o (pf_v 3)) (PE.o pf_int)))))) pf_int)) (ss_one (s_if (PW.pt (pw_or' (pt_not' (pt_v (pf_call0 hr ((ok_is_integer T).mono (by omega)) (paf_cons (pf_v 4) paf_nil)))) (pw_or' (pt_cmp' of_lt (PE.o (pf_v 4)) (PE.o pf_int) (nomark _)) (pw_or1' (PW.pt (pw_and' (pt_cmp' of_gt (PE.o (pf_v 4)) (PE.o pf_int) (nomark _)) (pw_and1' (pt_cmp' (of_ne hr.units) (PE.o (pf_v 5)) (PE.o (pf_v 1)) (nomark _))))))))) (ss_one (s_ret pf_bl)) ss_nil)))) (ss_one (s_ret pf_bl))))

theorem sc_are_borne : FnScope ["sizes", "plan", "burdens", "runs", "hour", "begin", "total", "first", "size", "borne", "run"] ["sizes", "plan", "burdens"] (defScope (top 26)) := ⟨rfl, rfl, rfl, by decide +kernel, rfl, by decide +kernel, by decide +kernel⟩

theorem ok_are_borne (T : Tx K mg) : DefOk P w K mg base ct 1 "are_borne" 3 F_are_borne :=
  def_ok T.f_are_borne sc_are_borne rfl rfl (by decide) fun f cdv A outer s0 H E hr =>
    have nd := sc_are_borne.nd
    (ss_cons (s_set 3 nd (pf_lst paf_nil)) (ss_cons (s_for (passes_of rfl) rfl (pi_enm T.b_enumerate (pf_v 1)) (pg_t rfl (pgs_c (pg_n 4 nd) (pgs_c (pg_n 5 nd) pgs_n))) (ss_cons (s_setLc 3 rfl nd (sw_true rfl rfl rfl (by decide +kernel)) (own := [("first", 7), ("size", 8), ("borne", 9)]) (gt := (gTup K 3 (gCons (gName 7) (gCons (gName 8) (gCons (gName 9) gNil))))) (pi_seq (pf_v 3)) (blkOk_by rfl) (fun _ _ _ _ _ => (pg_t rfl (pgs_c (pg_n 7 nd) (pgs_c (pg_n 8 nd) (pgs_c (pg_n 9 nd) pgs_n))))) (fun _ _ _ _ _ => ptsf_nil) (fun _ _ _ _ _ => (pf_tup (paf_cons (pf_v 7) (paf_cons (pf_v 8) (paf_cons (pf_bin of_add (PE.o (pf_v 9)) (PE.o (pf_ix (hu_of hr) (PE.o (pf_v 2)) (PE.o (pf_v 4))))) paf_nil)))))) (ss_cons (s_if (pt_v (pf_b1 (cf_any rfl) T.b_any bb_any (PE.o (pf_n (n_comp (own := [("first", 7), ("size", 8), ("borne", 9)]) (gt := (gTup K 3 (gCons (gName 7) (gCons (gName 8) (gCons (gName 9) gNil))))) rfl nd (pi_seq (pf_v 3)) (blkOk_by rfl) (fun _ _ _ _ _ => (pg_t rfl (pgs_c (pg_n 7 nd) (pgs_c (pg_n 8 nd) (pgs_c (pg_n 9 nd) pgs_n))))) (fun _ _ _ _ _ => ptsf_nil) (fun _ _ _ _ _ => (pf_cmp of_gt (PE.o (pf_v 9)) (PE.o (pf_v 8)) (nomark _)))))))) (ss_one (s_ret pf_bl)) ss_nil) (ss_cons (s_set 6 nd (pf_bin of_add (PE.o (pf_b1 (cf_sum rfl) T.b_sum bb_sum (PE.o (pf_n (n_comp (own := [("first", 7), ("size", 8), ("borne", 9)]) (gt := (gTup K 3 (gCons (gName 7) (gCons (gName 8) (gCons (gName 9) gNil))))) rfl nd (pi_seq (pf_v 3)) (blkOk_by rfl) (fun _ _ _ _ _ => (pg_t rfl (pgs_c (pg_n 7 nd) (pgs_c (pg_n 8 nd) (pgs_c (pg_n 9 nd) pgs_n))))) (fun _ _ _ _ _ => (ptsf_one (pt_cmp' of_ge (PE.o (pf_v 7)) (PE.o (pf_v 5)) (nomark _)))) (fun _ _ _ _ _ => (pf_v 8))))))) (PE.o (pf_ix (hu_of hr) (PE.o (pf_v 0)) (PE.o (pf_v 4)))))) (ss_one (s_set 3 nd (pf_bin of_add (PE.o (pf_n (n_comp (own := [("run", 10)]) (gt := (gName 10)) rfl nd (pi_seq (pf_v 3)) (blkOk_by rfl) (fun _ _ _ _ _ => (pg_n 10 nd)) (fun _ _ _ _ _ => (ptsf_one (pt_cmp' of_lt (PE.o (pf_ix (hu_of hr) (PE.o (pf_v 10)) (PE.o pf_int))) (PE.o (pf_v 5)) (nomark _)))) (fun _ _ _ _ _ => (pf_v 10))))) (PE.o (pf_lst (paf_cons (pf_tup (paf_cons (pf_v 5) (paf_cons (pf_v 6) (paf_cons pf_int paf_nil)))) paf_nil)))))))))) (ss_one (s_ret pf_bl))))

theorem sc_is_burden_there : FnScope ["sizes", "most", "thing", "shelves", "begins"] ["sizes", "most", "thing"] (defScope (top 28)) := ⟨rfl, rfl, rfl, by decide +kernel, rfl, by decide +kernel, by decide +kernel⟩

theorem ok_is_burden_there (T : Tx K mg) : DefOk P w K mg base ct 4 "is_burden_there" 3 F_is_burden_there :=
  def_ok T.f_is_burden_there sc_is_burden_there rfl rfl (by decide) fun f cdv A outer s0 H E hr =>
    have nd := sc_is_burden_there.nd
    (ss_cons (s_if (PW.pt (pw_or' (pt_not' (pt_v (pf_call0 hr ((ok_is_pair T).mono (by omega)) (paf_cons (pf_v 2) paf_nil)))) (pw_or1' (pt_not' (pt_v (pf_call0 hr ((ok_is_plan_of T).mono (by omega)) (paf_cons (pf_b1 cf_len T.b_len bb_len (PE.o (pf_v 0))) (paf_cons (pf_ix (hu_of hr) (PE.o (pf_v 2)) (PE.o pf_int)) paf_nil)))))))) (ss_one (s_ret pf_bl)) ss_nil) (ss_cons (s_set 3 nd (pf_call0 hr ((ok_begins_behind T).mono (by omega)) (paf_cons (pf_ix (hu_of hr) (PE.o (pf_v 2)) (PE.o pf_int)) paf_nil))) (ss_cons (s_if (PW.pt (pw_or' (pt_v (pf_b1 (cf_any rfl) T.b_any bb_any (PE.o (pf_n (n_comp (own := [("begins", 4)]) (gt := (gName 4)) rfl nd (pi_seq (pf_v 3)) (blkOk_by rfl) (fun _ _ _ _ _ => (pg_n 4 nd)) (fun _ _ _ _ _ => ptsf_nil) (fun _ _ _ _ _ => (pf_cmp of_gt (PE.o (pf_b1 cf_len T.b_len bb_len (PE.o (pf_v 4)))) (PE.o (pf_v 1)) (nomark _)))))))) (pw_or1' (pt_not' (pt_v (pf_call0 hr ((ok_are_raises T).mono (by omega)) (paf_cons (pf_v 3) (paf_cons (pf_v 1) (paf_cons (pf_ix (hu_of hr) (PE.o (pf_v 2)) (PE.o pf_int)) paf_nil))))))))) (ss_one (s_ret pf_bl)) ss_nil) (ss_one (s_ret (pf_call0 hr ((ok_are_borne T).mono (by omega)) (paf_cons (pf_v 0) (paf_cons (pf_ix (hu_of hr) (PE.o (pf_v 2)) (PE.o pf_int)) (paf_cons (pf_ix (hu_of hr) (PE.o (pf_v 2)) (PE.o pf_int)) paf_nil)))))))))

theorem sc_is_burden : FnScope ["sizes", "most", "thing"] ["sizes", "most", "thing"] (defScope (top 29)) := ⟨rfl, rfl, rfl, by decide +kernel, rfl, by decide +kernel, by decide +kernel⟩

theorem ok_is_burden (T : Tx K mg) : DefOk P w K mg base ct 6 "is_burden" 3 F_is_burden :=
  def_ok T.f_is_burden sc_is_burden rfl rfl (by decide) fun f cdv A outer s0 H E hr =>
    have nd := sc_is_burden.nd
    (ss_cons (s_expr (pf_call0 hr ((ok_check_sizes_and_most T).mono (by omega)) (paf_cons (pf_v 0) (paf_cons (pf_v 1) paf_nil)))) (ss_one (s_ret (pf_call0 hr ((ok_is_burden_there T).mono (by omega)) (paf_cons (pf_v 0) (paf_cons (pf_v 1) (paf_cons (pf_v 2) paf_nil)))))))

theorem sc_weight : FnScope ["sizes", "most", "thing"] ["sizes", "most", "thing"] (defScope (top 30)) := ⟨rfl, rfl, rfl, by decide +kernel, rfl, by decide +kernel, by decide +kernel⟩

theorem ok_weight (T : Tx K mg) : DefOk P w K mg base ct 6 "weight" 3 F_weight :=
  def_ok T.f_weight sc_weight rfl rfl (by decide) fun f cdv A outer s0 H E hr =>
    have nd := sc_weight.nd
    (ss_cons (s_expr (pf_call0 hr ((ok_check_sizes_and_most T).mono (by omega)) (paf_cons (pf_v 0) (paf_cons (pf_v 1) paf_nil)))) (ss_cons (s_if (pt_not' (pt_v (pf_call0 hr ((ok_is_burden_there T).mono (by omega)) (paf_cons (pf_v 0) (paf_cons (pf_v 1) (paf_cons (pf_v 2) paf_nil)))))) (ss_one (s_raise 0 T.x_NoBurden rfl (takes_of rfl rfl rfl rfl))) ss_nil) (ss_one (s_ret (pf_bin of_add (PE.o (pf_b1 (cf_sum rfl) T.b_sum bb_sum (PE.o (pf_ix (hu_of hr) (PE.o (pf_v 2)) (PE.o pf_int))))) (PE.o (pf_b1 (cf_sum rfl) T.b_sum bb_sum (PE.o (pf_v 0)))))))))

theorem sc__law_told : FnScope ["_law_sizes_here", "_law_most", "_law_thing", "_law_told_here"] ["_law_sizes_here", "_law_most", "_law_thing"] (defScope (top 45)) := ⟨rfl, rfl, rfl, by decide +kernel, rfl, by decide +kernel, by decide +kernel⟩

theorem ok__law_told (T : Tx K mg) : DefOk P w K mg base ct 7 "_law_told" 3 F__law_told :=
  def_ok T.f__law_told sc__law_told rfl rfl (by decide) fun f cdv A outer s0 H E hr =>
    have nd := sc__law_told.nd
    (ss_cons (s_set 3 nd pf_str) (ss_cons (s_try (m := (tabM [(0, true)])) 0 (exm_cons T.e_NoBurden_NoBurden exm_nil) (T.x_NoBurden.cls) rfl rfl (takes_of rfl rfl rfl rfl) (fun W pn xe tk po => (ss_one (s_set 3 nd (pf_call tk hr ((ok_weight T).mono (by omega)) (paf_cons (pf_v 0) (paf_cons (pf_v 1) (paf_cons (pf_v 2) paf_nil))))))) (fun a oe pn => (ss_one (s_set 3 nd pf_str)))) (ss_one (s_ret (pf_v 3)))))

theorem sc_law : FnScope ["_law_script", "_law_hand_here", "_law_turn", "_law_sizes_here", "_law_most", "_law_first", "_law_again", "_law_thing", "_law_change", "_law_due"] ["_law_script"] (defScope (top 46)) := ⟨rfl, rfl, rfl, by decide +kernel, rfl, by decide +kernel, by decide +kernel⟩

theorem law_ok (T : Tx K mg) : ∃ (f : Addr) (fd : FuncData), mg ("law" : Str) = some (.ref f) ∧ (∀ (s : Shared) (u : Value), BindsTo s fd ⟨[u], []⟩ [("_law_script", u)]) ∧ ∀ base : Heap, K.In base → base.Ns mainGlobals mg → FnOk P w K mg base (L2.CX P w) 8 f fd ["_law_script"] (spF ⟨K, mg, ct⟩ 1 F_law) :=
  law_fn T.f_law sc_law rfl (by decide) fun base f cdv A outer s0 H E hr =>
    have nd := sc_law.nd
    (ss_cons (s_set 1 nd (pf_call0 hr ((ok__law_hand T).mono (by omega)) (paf_cons (pf_v 0) paf_nil))) (ss_cons (s_for (passes_of rfl) rfl (pi_rng T.b_range pf_int) (pg_n 2 nd) (ss_cons (s_set 3 nd (pf_call0 hr ((ok__law_sizes T).mono (by omega)) (paf_cons (pf_v 1) (paf_cons (pf_bin of_add (PE.o pf_int) (PE.o (pf_call0 hr ((ok__law_draw T).mono (by omega)) (paf_cons (pf_v 1) (paf_cons pf_int paf_nil))))) (paf_cons (pf_ix (hu_of hr) (PE.o (pf_lst (paf_cons pf_int (paf_cons pf_int (paf_cons pf_int (paf_cons (pf_bin of_pow (PE.o pf_int) (PE.o pf_int)) paf_nil)))))) (PE.o (pf_call0 hr ((ok__law_draw T).mono (by omega)) (paf_cons (pf_v 1) (paf_cons pf_int paf_nil))))) paf_nil))))) (ss_cons (s_set 4 nd (pf_bin of_add (PE.o pf_int) (PE.o (pf_call0 hr ((ok__law_draw T).mono (by omega)) (paf_cons (pf_v 1) (paf_cons pf_int paf_nil)))))) (ss_cons (s_set 5 nd (pf_tup (paf_cons (pf_call0 hr ((ok_by_credits T).mono (by omega)) (paf_cons (pf_v 3) (paf_cons (pf_v 4) paf_nil))) (paf_cons (pf_call0 hr ((ok_raises T).mono (by omega)) (paf_cons (pf_v 3) (paf_cons (pf_v 4) paf_nil))) paf_nil)))) (ss_cons (s_if (pt_cmp' (of_eq hr.units) (PE.o (pf_call0 hr ((ok__law_draw T).mono (by omega)) (paf_cons (pf_v 1) (paf_cons pf_int paf_nil)))) (PE.o pf_int) (nomark _)) (ss_one (s_set 5 nd (pf_call0 hr ((ok__law_drawn_burden T).mono (by omega)) (paf_cons (pf_v 1) (paf_cons (pf_v 3) (paf_cons (pf_v 4) paf_nil)))))) ss_nil) (ss_one (s_for (passes_of rfl) rfl (pi_rng T.b_range pf_int) (pg_n 6 nd) (ss_cons (s_set 7 nd (pf_v 5)) (ss_cons (s_for (passes_of rfl) rfl (pi_rng T.b_range (pf_call0 hr ((ok__law_draw T).mono (by omega)) (paf_cons (pf_v 1) (paf_cons pf_int paf_nil)))) (pg_n 8 nd) (ss_one (s_if (pt_v (pf_call0 hr ((ok__law_is_apart T).mono (by omega)) (paf_cons (pf_v 3) (paf_cons (pf_v 7) paf_nil)))) (ss_one (s_set 7 nd (pf_call0 hr ((ok__law_bent T).mono (by omega)) (paf_cons (pf_v 1) (paf_cons (pf_v 3) (paf_cons (pf_v 7) paf_nil)))))) ss_nil))) (ss_cons (s_set 9 nd (pf_call0 hr ((ok__law_is_burden T).mono (by omega)) (paf_cons (pf_v 3) (paf_cons (pf_v 4) (paf_cons (pf_v 7) paf_nil))))) (ss_cons (s_if (pt_not' (pt_v (pf_call0 hr ((ok__law_flag T).mono (by omega)) (paf_cons (pf_call0 hr ((ok_is_burden T).mono (by omega)) (paf_cons (pf_v 3) (paf_cons (pf_v 4) (paf_cons (pf_v 7) paf_nil)))) (paf_cons (pf_v 9) paf_nil))))) (ss_one (s_ret pf_bl)) ss_nil) (ss_one (s_if (pt_cmp' (of_ne hr.units) (PE.o (pf_call0 hr ((ok__law_told T).mono (by omega)) (paf_cons (pf_v 3) (paf_cons (pf_v 4) (paf_cons (pf_v 7) paf_nil))))) (PE.o (pf_if (pt_v (pf_v 9)) (pf_bin of_add (PE.o (pf_b1 (cf_sum rfl) T.b_sum bb_sum (PE.o (pf_v 3)))) (PE.o (pf_b1 (cf_sum rfl) T.b_sum bb_sum (PE.o (pf_ix (hu_of hr) (PE.o (pf_v 7)) (PE.o pf_int)))))) pf_str)) (nomark _)) (ss_one (s_ret pf_bl)) ss_nil))))))))))))) (ss_one (s_ret pf_bl))))

end
end K75
open PySem PySem.W PyProof.Rows in
set_option maxRecDepth 100000 in
set_option maxHeartbeats 0 in
theorem PySem.Challenge.cw_joinshelf_k75_burdens_judged_and_spoiled_holds : PySem.Challenge.rw_joinshelf_k75_burdens_judged_and_spoiled.Holds := by
  w_on; o_law; k_head; (case hw => w_witness2)
  k_fill
  refine J.walk (l := PySem.Challenge.rw_joinshelf_k75_burdens_judged_and_spoiled) (F := K75.F_law) (ct := K75.ct) (x := "_law_script") (k := 8) rfl (by decide) rfl ⟨rfl, by decide, by decide⟩ (fun w h Y => PySem.W.kIn_of Y) ?F K75.law_true
  case F =>
    intro w mg h KX G V
    refine K75.law_ok ?T
    refine' K75.Tx.mk
        (PySem.W.mg_none_of KX G ?z_abs)
        (PySem.W.mg_none_of KX G ?z_all)
        (PySem.W.mg_none_of KX G ?z_any)
        (PySem.W.mg_none_of KX G ?z_bool)
        (PySem.W.mg_none_of KX G ?z_enumerate)
        (PySem.W.mg_none_of KX G ?z_int)
        (PySem.W.mg_none_of KX G ?z_isinstance)
        (PySem.W.mg_none_of KX G ?z_len)
        (PySem.W.mg_none_of KX G ?z_list)
        (PySem.W.mg_none_of KX G ?z_min)
        (PySem.W.mg_none_of KX G ?z_range)
        (PySem.W.mg_none_of KX G ?z_sum)
        (PySem.W.mg_none_of KX G ?z_tuple)
        (J.num_mk KX G ?n_MOST_RUNS)
        (J.num_loose V.2 (by decide +kernel))
        (J.num_mk KX G ?n_MOST_SIZES)
        (J.excX_mk KX G rfl ?xa_NoBurden ?xq_NoBurden ?xk_NoBurden ?xs_NoBurden ?xt_NoBurden)
        (J.exmX_mk KX G rfl rfl ?e0_NoBurden_NoBurden ?e1_NoBurden_NoBurden ?e2_NoBurden_NoBurden ?e3_NoBurden_NoBurden ?e4_NoBurden_NoBurden ?e5_NoBurden_NoBurden)
        (J.funX_mk KX G ?a0 ?l0 ?c0 ?k0 (fun _ _ _ _ _ _ us hl => match us, hl with | [_], _ => rfl))
        (J.funX_mk KX G ?a1 ?l1 ?c1 ?k1 (fun _ _ _ _ _ _ us hl => match us, hl with | [_, _], _ => rfl))
        (J.funX_mk KX G ?a2 ?l2 ?c2 ?k2 (fun _ _ _ _ _ _ us hl => match us, hl with | [_, _, _], _ => rfl))
        (J.funX_mk KX G ?a3 ?l3 ?c3 ?k3 (fun _ _ _ _ _ _ us hl => match us, hl with | [_], _ => rfl))
        (J.funX_mk KX G ?a4 ?l4 ?c4 ?k4 (fun _ _ _ _ _ _ us hl => match us, hl with | [_, _, _], _ => rfl))
        (J.funX_mk KX G ?a5 ?l5 ?c5 ?k5 (fun _ _ _ _ _ _ us hl => match us, hl with | [_], _ => rfl))
        (J.funX_mk KX G ?a6 ?l6 ?c6 ?k6 (fun _ _ _ _ _ _ us hl => match us, hl with | [_, _, _], _ => rfl))
        (J.funX_mk KX G ?a7 ?l7 ?c7 ?k7 (fun _ _ _ _ _ _ us hl => match us, hl with | [_], _ => rfl))
        (J.funX_mk KX G ?a8 ?l8 ?c8 ?k8 (fun _ _ _ _ _ _ us hl => match us, hl with | [_, _], _ => rfl))
        (J.funX_mk KX G ?a9 ?l9 ?c9 ?k9 (fun _ _ _ _ _ _ us hl => match us, hl with | [_], _ => rfl))
        (J.funX_mk KX G ?a10 ?l10 ?c10 ?k10 (fun _ _ _ _ _ _ us hl => match us, hl with | [_, _], _ => rfl))
        (J.funX_mk KX G ?a11 ?l11 ?c11 ?k11 (fun _ _ _ _ _ _ us hl => match us, hl with | [_, _], _ => rfl))
        (J.funX_mk KX G ?a12 ?l12 ?c12 ?k12 (fun _ _ _ _ _ _ us hl => match us, hl with | [_, _], _ => rfl))
        (J.funX_mk KX G ?a13 ?l13 ?c13 ?k13 (fun _ _ _ _ _ _ us hl => match us, hl with | [_, _, _], _ => rfl))
        (J.funX_mk KX G ?a14 ?l14 ?c14 ?k14 (fun _ _ _ _ _ _ us hl => match us, hl with | [_, _, _], _ => rfl))
        (J.funX_mk KX G ?a15 ?l15 ?c15 ?k15 (fun _ _ _ _ _ _ us hl => match us, hl with | [_, _], _ => rfl))
        (J.funX_mk KX G ?a16 ?l16 ?c16 ?k16 (fun _ _ _ _ _ _ us hl => match us, hl with | [_], _ => rfl))
        (J.funX_mk KX G ?a17 ?l17 ?c17 ?k17 (fun _ _ _ _ _ _ us hl => match us, hl with | [_, _, _], _ => rfl))
        (J.funX_mk KX G ?a18 ?l18 ?c18 ?k18 (fun _ _ _ _ _ _ us hl => match us, hl with | [_, _, _], _ => rfl))
        (J.funX_mk KX G ?a19 ?l19 ?c19 ?k19 (fun _ _ _ _ _ _ us hl => match us, hl with | [_, _], _ => rfl))
        (J.funX_mk KX G ?a20 ?l20 ?c20 ?k20 (fun _ _ _ _ _ _ us hl => match us, hl with | [_], _ => rfl))
        (J.funX_mk KX G ?a21 ?l21 ?c21 ?k21 (fun _ _ _ _ _ _ us hl => match us, hl with | [_, _, _], _ => rfl))
        (J.funX_mk KX G ?a22 ?l22 ?c22 ?k22 (fun _ _ _ _ _ _ us hl => match us, hl with | [_, _], _ => rfl))
        (J.funX_mk KX G ?a23 ?l23 ?c23 ?k23 (fun _ _ _ _ _ _ us hl => match us, hl with | [_, _], _ => rfl))
        (J.funX_mk KX G ?a24 ?l24 ?c24 ?k24 (fun _ _ _ _ _ _ us hl => match us, hl with | [_, _], _ => rfl))
        (J.funX_mk KX G ?a25 ?l25 ?c25 ?k25 (fun _ _ _ _ _ _ us hl => match us, hl with | [_], _ => rfl))
        (J.funX_mk KX G ?a26 ?l26 ?c26 ?k26 (fun _ _ _ _ _ _ us hl => match us, hl with | [_], _ => rfl))
        (J.funX_mk KX G ?a27 ?l27 ?c27 ?k27 (fun _ _ _ _ _ _ us hl => match us, hl with | [_, _, _], _ => rfl))
        (J.funX_mk KX G ?a28 ?l28 ?c28 ?k28 (fun _ _ _ _ _ _ us hl => match us, hl with | [_, _, _], _ => rfl))
        (J.funX_mk KX G ?a29 ?l29 ?c29 ?k29 (fun _ _ _ _ _ _ us hl => match us, hl with | [_, _, _], _ => rfl))
        (J.funX_mk KX G ?a30 ?l30 ?c30 ?k30 (fun _ _ _ _ _ _ us hl => match us, hl with | [_, _, _], _ => rfl))
        (J.funX_mk KX G ?a31 ?l31 ?c31 ?k31 (fun _ _ _ _ _ _ us hl => match us, hl with | [_, _, _], _ => rfl))
        (J.funX_mk KX G ?a32 ?l32 ?c32 ?k32 (fun _ _ _ _ _ _ us hl => match us, hl with | [_, _, _], _ => rfl))
        (J.funX_mk KX G ?a33 ?l33 ?c33 ?k33 (fun _ _ _ _ _ _ us hl => match us, hl with | [_], _ => rfl))
    (case z_abs => k_is)
    (case z_all => k_is)
    (case z_any => k_is)
    (case z_bool => k_is)
    (case z_enumerate => k_is)
    (case z_int => k_is)
    (case z_isinstance => k_is)
    (case z_len => k_is)
    (case z_list => k_is)
    (case z_min => k_is)
    (case z_range => k_is)
    (case z_sum => k_is)
    (case z_tuple => k_is)
    (case n_MOST_RUNS => k_is)
    (case n_MOST_SIZES => k_is)
    (case xa_NoBurden => k_is)
    (case xq_NoBurden => k_exc)
    (case xk_NoBurden => k_is)
    (case xs_NoBurden => k_is)
    (case xt_NoBurden => k_is)
    (case e0_NoBurden_NoBurden => k_is)
    (case e1_NoBurden_NoBurden => k_is)
    (case e2_NoBurden_NoBurden => k_is)
    (case e3_NoBurden_NoBurden => k_is)
    (case e4_NoBurden_NoBurden => k_is)
    (case e5_NoBurden_NoBurden => first | rfl | k_is)
    (case a0 => k_is)
    (case l0 => k_is)
    (case c0 => k_is)
    (case k0 => k_is)
    (case a1 => k_is)
    (case l1 => k_is)
    (case c1 => k_is)
    (case k1 => k_is)
    (case a2 => k_is)
    (case l2 => k_is)
    (case c2 => k_is)
    (case k2 => k_is)
    (case a3 => k_is)
    (case l3 => k_is)
    (case c3 => k_is)
    (case k3 => k_is)
    (case a4 => k_is)
    (case l4 => k_is)
    (case c4 => k_is)
    (case k4 => k_is)
    (case a5 => k_is)
    (case l5 => k_is)
    (case c5 => k_is)
    (case k5 => k_is)
    (case a6 => k_is)
    (case l6 => k_is)
    (case c6 => k_is)
    (case k6 => k_is)
    (case a7 => k_is)
    (case l7 => k_is)
    (case c7 => k_is)
    (case k7 => k_is)
    (case a8 => k_is)
    (case l8 => k_is)
    (case c8 => k_is)
    (case k8 => k_is)
    (case a9 => k_is)
    (case l9 => k_is)
    (case c9 => k_is)
    (case k9 => k_is)
    (case a10 => k_is)
    (case l10 => k_is)
    (case c10 => k_is)
    (case k10 => k_is)
    (case a11 => k_is)
    (case l11 => k_is)
    (case c11 => k_is)
    (case k11 => k_is)
    (case a12 => k_is)
    (case l12 => k_is)
    (case c12 => k_is)
    (case k12 => k_is)
    (case a13 => k_is)
    (case l13 => k_is)
    (case c13 => k_is)
    (case k13 => k_is)
    (case a14 => k_is)
    (case l14 => k_is)
    (case c14 => k_is)
    (case k14 => k_is)
    (case a15 => k_is)
    (case l15 => k_is)
    (case c15 => k_is)
    (case k15 => k_is)
    (case a16 => k_is)
    (case l16 => k_is)
    (case c16 => k_is)
    (case k16 => k_is)
    (case a17 => k_is)
    (case l17 => k_is)
    (case c17 => k_is)
    (case k17 => k_is)
    (case a18 => k_is)
    (case l18 => k_is)
    (case c18 => k_is)
    (case k18 => k_is)
    (case a19 => k_is)
    (case l19 => k_is)
    (case c19 => k_is)
    (case k19 => k_is)
    (case a20 => k_is)
    (case l20 => k_is)
    (case c20 => k_is)
    (case k20 => k_is)
    (case a21 => k_is)
    (case l21 => k_is)
    (case c21 => k_is)
    (case k21 => k_is)
    (case a22 => k_is)
    (case l22 => k_is)
    (case c22 => k_is)
    (case k22 => k_is)
    (case a23 => k_is)
    (case l23 => k_is)
    (case c23 => k_is)
    (case k23 => k_is)
    (case a24 => k_is)
    (case l24 => k_is)
    (case c24 => k_is)
    (case k24 => k_is)
    (case a25 => k_is)
    (case l25 => k_is)
    (case c25 => k_is)
    (case k25 => k_is)
    (case a26 => k_is)
    (case l26 => k_is)
    (case c26 => k_is)
    (case k26 => k_is)
    (case a27 => k_is)
    (case l27 => k_is)
    (case c27 => k_is)
    (case k27 => k_is)
    (case a28 => k_is)
    (case l28 => k_is)
    (case c28 => k_is)
    (case k28 => k_is)
    (case a29 => k_is)
    (case l29 => k_is)
    (case c29 => k_is)
    (case k29 => k_is)
    (case a30 => k_is)
    (case l30 => k_is)
    (case c30 => k_is)
    (case k30 => k_is)
    (case a31 => k_is)
    (case l31 => k_is)
    (case c31 => k_is)
    (case k31 => k_is)
    (case a32 => k_is)
    (case l32 => k_is)
    (case c32 => k_is)
    (case k32 => k_is)
    (case a33 => k_is)
    (case l33 => k_is)
    (case c33 => k_is)
    (case k33 => k_is)
