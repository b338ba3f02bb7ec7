import PyProof.Rows.All
import Wide.All
import OpenK.AllK
import Wide.FinOn
import HandS.ForExc
import HandS.ForMost
import HandS.CallSlots
import HandS.Wide
import HandS.IsInst
import HandS.SortInts
import HandS.Defaults
import HandS.Conv
import HandS.ExcField
import HandS.ExcIs
import PySem.Str
import PySem.Challenge.RW_armswing_k04_plates_refused
set_option linter.all false
/-! The plain side: data, slots, and what each form of the text comes to, with no machine in sight. -/
namespace Q
open PySem (Str)

inductive D where
  | non
  | bl (b : Bool)
  | int (i : Int)
  | str (s : Str)
  | tup (xs : List D)
  | lst (xs : List D)
  | frz (ns : List Int)
  | obj (c : Nat) (fs : List D)

namespace D
mutual
def beq : D → D → Bool
  | .non, .non => true
  | .bl a, .bl b => a == b
  | .int a, .int b => a == b
  | .str a, .str b => decide (a = b)
  | .tup xs, .tup ys => beqs xs ys
  | .lst xs, .lst ys => beqs xs ys
  | .frz xs, .frz ys => xs == ys
  | .obj c xs, .obj d ys => c == d && beqs xs ys
  | _, _ => false
def beqs : List D → List D → Bool
  | [], [] => true
  | x :: xs, y :: ys => beq x y && beqs xs ys
  | _, _ => false
end
mutual
theorem beq_refl : ∀ a : D, beq a a = true
  | .non => rfl
  | .bl _ => by simp [beq]
  | .int _ => by simp [beq]
  | .str _ => by simp [beq]
  | .tup xs => by rw [beq]; exact beqs_refl xs
  | .lst xs => by rw [beq]; exact beqs_refl xs
  | .frz _ => by simp [beq]
  | .obj _ xs => by rw [beq, beqs_refl xs]; simp
theorem beqs_refl : ∀ a : List D, beqs a a = true
  | [] => by rw [beqs]
  | x :: xs => by rw [beqs, beq_refl x, beqs_refl xs]; rfl
end
mutual
theorem of_beq : ∀ a b : D, beq a b = true → a = b
  | .non, b, h => by cases b <;> simp [beq] at h <;> rfl
  | .bl _, b, h => by cases b <;> simp [beq] at h; rw [h]
  | .int _, b, h => by cases b <;> simp [beq] at h; rw [h]
  | .str _, b, h => by cases b <;> simp [beq] at h; rw [h]
  | .tup xs, b, h => by
    cases b with
    | tup ys => rw [beq] at h; rw [of_beqs xs ys h]
    | _ => simp [beq] at h
  | .lst xs, b, h => by
    cases b with
    | lst ys => rw [beq] at h; rw [of_beqs xs ys h]
    | _ => simp [beq] at h
  | .frz _, b, h => by cases b <;> simp [beq] at h; rw [h]
  | .obj c xs, b, h => by
    cases b with
    | obj d ys =>
      rw [beq, Bool.and_eq_true] at h
      rw [of_beqs xs ys h.2, eq_of_beq h.1]
    | _ => simp [beq] at h
theorem of_beqs : ∀ a b : List D, beqs a b = true → a = b
  | [], b, h => by cases b <;> simp [beqs] at h; rfl
  | x :: xs, b, h => by
    cases b with
    | nil => simp [beqs] at h
    | cons y ys =>
      rw [beqs, Bool.and_eq_true] at h
      rw [of_beq x y h.1, of_beqs xs ys h.2]
end
theorem beq_iff {a b : D} : beq a b = true ↔ a = b := ⟨of_beq a b, fun h => h ▸ beq_refl a⟩
def scalar : D → Bool
  | .non | .bl _ | .int _ | .str _ => true
  | _ => false
def flat : D → Bool
  | .lst xs => xs.all scalar
  | .tup xs => xs.all scalar
  | d => scalar d
mutual
/-- the data that Python's == may be asked of here -/
def plain : D → Bool
  | .non | .int _ => true
  | .bl _ => true
  | .str s => s.cps.all (· < 0x110000)
  | .tup xs => plains xs
  | .lst xs => plains xs
  | _ => false
def plains : List D → Bool
  | [] => true
  | x :: xs => plain x && plains xs
end
mutual
def depth : D → Nat
  | .tup xs => depths xs + 1
  | .lst xs => depths xs + 1
  | _ => 0
def depths : List D → Nat
  | [] => 0
  | x :: xs => max (depth x) (depths xs)
end
mutual
/-- no objects, no script -/
def data : D → Bool
  | .non | .int _ | .bl _ | .str _ => true
  | .tup xs => datas xs
  | .lst xs => datas xs
  | _ => false
def datas : List D → Bool
  | [] => true
  | x :: xs => data x && datas xs
end
def pure (n : Nat) (d : D) : Bool := d.data && decide (d.depth ≤ n)
def numOf : D → Option Int
  | .bl b => some (if b then 1 else 0)
  | .int i => some i
  | _ => none
mutual
def eqv : D → D → Bool
  | .non, .non => true
  | .bl a, .bl b => a == b
  | .bl a, .int j => (if a then 1 else 0) == j
  | .int i, .bl b => i == (if b then 1 else 0)
  | .int a, .int b => a == b
  | .str a, .str b => decide (a = b)
  | .tup xs, .tup ys => eqvs xs ys
  | .lst xs, .lst ys => eqvs xs ys
  | _, _ => false
def eqvs : List D → List D → Bool
  | [], [] => true
  | x :: xs, y :: ys => eqv x y && eqvs xs ys
  | _, _ => false
end
end D

/-- how a value is held: cold (never changed again), fresh (new, nobody else holds it), hot (a list that a name of the frame changes), taint (may hold something hot) -/
inductive Cl where
  | cold | fresh | hot | taint
  deriving DecidableEq
inductive S where
  | no
  | cold (d : D)
  | hot (ds : List D)
  | hob (c : Nat) (ds : List D)
  | slf (c : Nat) (ds : List D)
  | bor (d : D)
  | exn (k : Nat) (fs : List D)
abbrev Env := List S
inductive R where
  | ok (d : D) (c : Cl)
  | exc (k : Nat) (fs : List D)
  | bad
inductive RA where
  | ok (ds : List D) (t : Bool)
  | exc (k : Nat) (fs : List D)
  | bad
inductive RB where
  | ok (b : Bool)
  | exc (k : Nat) (fs : List D)
  | bad
inductive Ctl where
  | nx (e : Env)
  | rt (d : D) (c : Cl) (e : Env)
  | bk (e : Env)
  | ct (e : Env)
  | exc (k : Nat) (fs : List D) (e : Env)
  | bad
abbrev X := Env → R
abbrev XA := Env → RA
abbrev XB := Env → RB
abbrev XS := Env → Ctl

@[simp] def R.bind (r : R) (f : D → Cl → R) : R := match r with
  | .ok d c => f d c
  | .exc k fs => .exc k fs
  | .bad => .bad
@[simp] def R.bindA (r : R) (f : D → Cl → RA) : RA := match r with
  | .ok d c => f d c
  | .exc k fs => .exc k fs
  | .bad => .bad
@[simp] def R.bindB (r : R) (f : D → Cl → RB) : RB := match r with
  | .ok d c => f d c
  | .exc k fs => .exc k fs
  | .bad => .bad
@[simp] def RA.bind (r : RA) (f : List D → Bool → R) : R := match r with
  | .ok ds t => f ds t
  | .exc k fs => .exc k fs
  | .bad => .bad
@[simp] def RB.bind (r : RB) (f : Bool → R) : R := match r with
  | .ok b => f b
  | .exc k fs => .exc k fs
  | .bad => .bad
@[simp] def RB.bindB (r : RB) (f : Bool → RB) : RB := match r with
  | .ok b => f b
  | .exc k fs => .exc k fs
  | .bad => .bad
@[simp] def R.bindS (r : R) (e : Env) (f : D → Cl → Ctl) : Ctl := match r with
  | .ok d c => f d c
  | .exc k fs => .exc k fs e
  | .bad => .bad
@[simp] def RA.bindS (r : RA) (e : Env) (f : List D → Bool → Ctl) : Ctl := match r with
  | .ok ds t => f ds t
  | .exc k fs => .exc k fs e
  | .bad => .bad
@[simp] def RB.bindS (r : RB) (e : Env) (f : Bool → Ctl) : Ctl := match r with
  | .ok b => f b
  | .exc k fs => .exc k fs e
  | .bad => .bad
@[simp] def Ctl.bind (r : Ctl) (f : Env → Ctl) : Ctl := match r with
  | .nx e => f e
  | r => r

/-- the largest length that a made thing may have -/
def most : Nat := 1000000
@[simp] def ofO (o : Option D) : R := match o with
  | some d => .ok d .cold
  | none => .bad

/-! ### expressions -/
@[simp] def var (i : Nat) : X := fun e => match e[i]? with
  | some (.cold d) => .ok d .cold
  | some (.hot ds) => .ok (.lst ds) .hot
  | some (.hob c ds) => .ok (.obj c ds) .hot
  | some (.slf c ds) => .ok (.obj c ds) .hot
  | some (.bor d) => .ok d .taint
  | _ => .bad
@[simp] def con (d : D) : X := fun _ => .ok d .cold
@[simp] def op1 (f : D → Option D) (a : X) : X := fun e => (a e).bind fun x _ => ofO (f x)
@[simp] def op2 (f : D → D → Option D) (a b : X) : X := fun e => (a e).bind fun x _ => (b e).bind fun y _ => ofO (f x y)
/-- a op1 b op2 c -/
@[simp] def chain (f g : D → D → Option D) (a b c : X) : X := fun e => (a e).bind fun x _ => (b e).bind fun y _ => match f x y with
  | some (.bl true) => (c e).bind fun z _ => ofO (g y z)
  | some (.bl false) => .ok (.bl false) .cold
  | _ => .bad
@[simp] def tst (a : X) : XB := fun e => (a e).bindB fun d _ => match d with
  | .bl b => .ok b
  | _ => .bad
@[simp] def tand (a b : XB) : XB := fun e => (a e).bindB fun k => if k then b e else .ok false
@[simp] def tor (a b : XB) : XB := fun e => (a e).bindB fun k => if k then .ok true else b e
@[simp] def tnot (a : XB) : XB := fun e => (a e).bindB fun k => .ok (!k)
@[simp] def tyes : XB := fun _ => .ok true
@[simp] def vand (a b : X) : X := fun e => (a e).bind fun d _ => match d with
  | .bl true => b e
  | .bl false => .ok (.bl false) .cold
  | _ => .bad
@[simp] def vor (a b : X) : X := fun e => (a e).bind fun d _ => match d with
  | .bl true => .ok (.bl true) .cold
  | .bl false => b e
  | _ => .bad
@[simp] def vnot (a : X) : X := fun e => (a e).bind fun d _ => match d with
  | .bl b => .ok (.bl (!b)) .cold
  | _ => .bad
@[simp] def cond (t : XB) (a b : X) : X := fun e => (t e).bind fun k => if k then a e else b e
/-- does the class tell that something hot may be in it -/
@[simp] def dirty (c : Cl) (d : D) : Bool := match c with
  | .hot => true
  | .taint => !d.scalar
  | _ => false
@[simp] def anil : XA := fun _ => .ok [] false
@[simp] def acons (a : X) (r : XA) : XA := fun e => (a e).bindA fun d c => match r e with
  | .ok ds t => .ok (d :: ds) (dirty c d || t)
  | .exc k fs => .exc k fs
  | .bad => .bad
@[simp] def tupx (a : XA) : X := fun e => (a e).bind fun ds t => if ds.length ≤ most then .ok (.tup ds) (if t then .taint else .cold) else .bad
@[simp] def lstx (a : XA) : X := fun e => (a e).bind fun ds t => if ds.length ≤ most then .ok (.lst ds) (if t then .taint else .fresh) else .bad
/-- what is part of a value -/
@[simp] def part (c : Cl) (d : D) : Cl := match c with
  | .taint => if d.scalar then .cold else .taint
  | _ => .cold
/-- a call's end -/
@[simp] def post (t : Bool) (d : D) (c : Cl) : Cl :=
  if t then (match c with
    | .fresh => if d.flat then .fresh else .taint
    | _ => if d.scalar then .cold else .taint)
  else (match c with
    | .fresh => .fresh
    | _ => .cold)
@[simp] def ended (t : Bool) : R → R
  | .ok d c => .ok d (post t d c)
  | .exc k fs => if t && !fs.all D.scalar then .bad else .exc k fs
  | .bad => .bad
@[simp] def call (n : Nat) (g : List D → R) (a : XA) : X := fun e => (a e).bind fun ds t => if ds.length = n then ended t (g ds) else .bad
/-- C(..): the class's tag, what its __init__ makes of the arguments (the object's fields) -/
@[simp] def made (t tk : Bool) : R → R
  | .ok d _ => .ok d (if tk then .taint else .fresh)
  | .exc k fs => if t && !fs.all D.scalar then .bad else .exc k fs
  | .bad => .bad
@[simp] def mk (n : Nat) (g : List D → R) (a : XA) : X := fun e => (a e).bind fun ds t => if ds.length = n then made t t (g ds) else .bad
/-- .. where nothing of the arguments is kept -/
@[simp] def mkN (n : Nat) (g : List D → R) (a : XA) : X := fun e => (a e).bind fun ds t => if ds.length = n then made t false (g ds) else .bad
/-- a else b: a tells nothing where the object is of another class -/
@[simp] def orx (a b : X) : X := fun e => match a e with
  | .bad => b e
  | r => r
/-- o.m(..), o of the class n -/
@[simp] def meth (n m : Nat) (g : List D → R) (o : X) (a : XA) : X := fun e => (o e).bind fun d c => match d with
  | .obj k fs => if k = n then (a e).bind fun ds t => (if ds.length = m then ended (dirty c d || t) (g (.obj k fs :: ds)) else .bad) else .bad
  | _ => .bad
/-- o.f: the k-th field of an object of the class n -/
@[simp] def fld (n k : Nat) (o : X) : X := fun e => (o e).bind fun d c => match d with
  | .obj m fs => if m = n then (match fs[k]? with
    | some x => .ok x (part c x)
    | none => .bad) else .bad
  | _ => .bad
/-! ### places -/
def ixN (n : Nat) (i : Int) : Option Nat := if 0 ≤ i then (if i < n then some i.toNat else none) else if -(n : Int) ≤ i then some (i + n).toNat else none
def atI {α : Type} (xs : List α) (i : Int) : Option α := (ixN xs.length i).bind fun j => xs[j]?
@[simp] def item : D → D → Option D
  | .lst xs, .int i => atI xs i
  | .tup xs, .int i => atI xs i
  | .frz ns, .int i => (atI ns i).map D.int
  | _, _ => none
@[simp] def idx (a b : X) : X := fun e => (a e).bind fun x c => (b e).bind fun y _ => match item x y with
  | some d => .ok d (part c d)
  | none => .bad
def sIx (n d : Nat) : Option Int → Nat
  | none => d
  | some v => if v < 0 then (v + (n : Int)).toNat else min v.toNat n
def cut {α : Type} (xs : List α) (lo hi : Option Int) : List α := (xs.drop (sIx xs.length 0 lo)).take (sIx xs.length xs.length hi - sIx xs.length 0 lo)
abbrev XO := Env → Option (Option Int)
@[simp] def onone : XO := fun _ => some none
@[simp] def osome (a : X) : XO := fun e => match a e with
  | .ok (.int i) _ => some (some i)
  | _ => none
/-- the class of a new list of the same items -/
@[simp] def again (c : Cl) (ds : List D) : Cl := match c with
  | .taint => if ds.all D.scalar then .fresh else .taint
  | _ => .fresh
@[simp] def slice (a : X) (lo hi : XO) : X := fun e => (a e).bind fun x c => match lo e, hi e with
  | some l, some h => (match x with
    | .lst xs => .ok (.lst (cut xs l h)) (again c (cut xs l h))
    | .frz ns => .ok (.lst ((cut ns l h).map D.int)) .fresh
    | .tup xs => if sIx xs.length 0 l = 0 ∧ sIx xs.length xs.length h = xs.length then .bad else .ok (.tup (cut xs l h)) (part c (.tup (cut xs l h)))
    | _ => .bad)
  | _, _ => .bad
/-- list(xs) -/
@[simp] def items : D → Option (List D)
  | .lst xs => some xs
  | .tup xs => some xs
  | .frz ns => some (ns.map D.int)
  | _ => none
@[simp] def listOf (a : X) : X := fun e => (a e).bind fun x c => match items x with
  | some ds => .ok (.lst ds) (again c ds)
  | none => .bad
@[simp] def listRng (lo hi : X) : X := fun e => (lo e).bind fun x _ => (hi e).bind fun y _ => match x, y with
  | .int a, .int b => if (-4000000000 < a ∧ a < 4000000000) ∧ (-4000000000 < b ∧ b < 4000000000) ∧ b - a ≤ 1000000 then .ok (.lst (((List.range (b - a).toNat).map fun (i : Nat) => a + (i : Int)).map D.int)) .fresh else .bad
  | _, _ => .bad
/-- tuple(xs) -/
@[simp] def tupOf (a : X) : X := fun e => (a e).bind fun x c => match x with
  | .lst ds => .ok (.tup ds) (part c (.tup ds))
  | .tup ds => .ok (.tup ds) (part c (.tup ds))
  | _ => .bad
@[simp] def catx (a b : X) : X := fun e => (a e).bind fun x c => (b e).bind fun y c' => match x, y with
  | .lst xs, .lst ys => if xs.length + ys.length ≤ most then .ok (.lst (xs ++ ys)) (match again c xs, again c' ys with
    | .fresh, .fresh => .fresh
    | _, _ => .taint) else .bad
  | _, _ => .bad
def repD (xs : List D) (k : Int) : List D := (List.replicate k.toNat xs).flatten
@[simp] def repx (a b : X) : X := fun e => (a e).bind fun x c => (b e).bind fun y _ => match x, y with
  | .lst xs, .int k => if k ≤ 1000000 ∧ -1000000 ≤ k ∧ xs.length * k.toNat ≤ most then .ok (.lst (repD xs k)) (again c xs) else .bad
  | _, _ => .bad
/-! ### operators on data -/
def big : Int := 340282366920938463463374607431768211456
@[simp] def opAdd : D → D → Option D
  | .int i, .int j => some (.int (i + j))
  | _, _ => none
@[simp] def opSub : D → D → Option D
  | .int i, .int j => some (.int (i - j))
  | _, _ => none
@[simp] def opMul : D → D → Option D
  | .int i, .int j => if (-big < i ∧ i < big) ∧ -big < j ∧ j < big then some (.int (i * j)) else none
  | _, _ => none
@[simp] def opDiv : D → D → Option D
  | .int i, .int j => if 0 < j ∧ j < big then some (.int (i / j)) else none
  | _, _ => none
@[simp] def opMod : D → D → Option D
  | .int i, .int j => if 0 < j then some (.int (i % j)) else none
  | _, _ => none
@[simp] def opPow : D → D → Option D
  | .int i, .int j => if 0 ≤ j ∧ j ≤ 1000 ∧ -1000 < i ∧ i < 1000 then some (.int (i ^ j.toNat)) else none
  | _, _ => none
@[simp] def opNeg : D → Option D
  | .int i => some (.int (-i))
  | _ => none
@[simp] def opLt : D → D → Option D
  | .int i, .int j => some (.bl (decide (i < j)))
  | _, _ => none
@[simp] def opLe : D → D → Option D
  | .int i, .int j => some (.bl (decide (i ≤ j)))
  | _, _ => none
@[simp] def opGt : D → D → Option D
  | .int i, .int j => some (.bl (decide (j < i)))
  | _, _ => none
@[simp] def opGe : D → D → Option D
  | .int i, .int j => some (.bl (decide (j ≤ i)))
  | _, _ => none
/-- == of two scalars -/
@[simp] def eqS : D → D → Option Bool
  | .non, .non => some true
  | .int i, .int j => some (decide (i = j))
  | .bl i, .bl j => some (decide (i = j))
  | .str i, .str j => some (decide (i = j))
  | .non, .int _ => some false
  | .int _, .non => some false
  | .non, .bl _ => some false
  | .bl _, .non => some false
  | .non, .str _ => some false
  | .str _, .non => some false
  | .int _, .str _ => some false
  | .str _, .int _ => some false
  | .bl _, .str _ => some false
  | .str _, .bl _ => some false
  | _, _ => none
@[simp] def opEq (x y : D) : Option D := (eqS x y).map D.bl
@[simp] def opNe (x y : D) : Option D := (eqS x y).map fun b => D.bl (!b)
/-- == of lists and tuples at any depth -/
@[simp] def eqP (x y : D) : Option Bool := if x.plain = true ∧ y.plain = true ∧ x.depth ≤ 64 ∧ y.depth ≤ 64 then some (D.eqv x y) else none
@[simp] def opEqP (x y : D) : Option D := (eqP x y).map D.bl
@[simp] def opNeP (x y : D) : Option D := (eqP x y).map fun b => D.bl (!b)
@[simp] def opIsN : D → Option D
  | .non => some (.bl true)
  | .int _ | .bl _ | .str _ | .tup _ | .lst _ | .obj _ _ | .frz _ => some (.bl false)
@[simp] def opNotN : D → Option D
  | .non => some (.bl false)
  | .int _ | .bl _ | .str _ | .tup _ | .lst _ | .obj _ _ | .frz _ => some (.bl true)
/-- x in xs, flat items -/
@[simp] def memP (x : D) (ds : List D) : Option Bool := if x.scalar && ds.all D.scalar then some (ds.any fun y => D.eqv y x) else none
@[simp] def opIn (x y : D) : Option D := match y with
  | .lst ds => (memP x ds).map D.bl
  | .tup ds => (memP x ds).map D.bl
  | _ => none
@[simp] def opNotIn (x y : D) : Option D := match y with
  | .lst ds => (memP x ds).map fun b => D.bl (!b)
  | .tup ds => (memP x ds).map fun b => D.bl (!b)
  | _ => none
@[simp] def fLen : D → Option D
  | .lst xs => some (.int xs.length)
  | .tup xs => some (.int xs.length)
  | .frz xs => some (.int xs.length)
  | _ => none
@[simp] def fAbs : D → Option D
  | .int i => some (.int (if i < 0 then -i else i))
  | _ => none
@[simp] def fMax2 : D → D → Option D
  | .int i, .int j => some (.int (if j > i then j else i))
  | _, _ => none
@[simp] def fMin2 : D → D → Option D
  | .int i, .int j => some (.int (if j < i then j else i))
  | _, _ => none
/-- the intsD of a list, if it is one -/
def intsD : List D → Option (List Int)
  | [] => some []
  | .int i :: r => (intsD r).map (i :: ·)
  | _ :: _ => none
theorem ints_map (ns : List Int) : intsD (ns.map D.int) = some ns := by
  induction ns with
  | nil => rfl
  | cons n r ih => simp [intsD, ih]
theorem of_ints : ∀ {ds : List D} {ns : List Int}, intsD ds = some ns → ds = ns.map D.int
  | [], ns, h => by simp [intsD] at h; subst h; rfl
  | d :: r, ns, h => by
    cases d with
    | int i =>
      simp only [intsD, Option.map_eq_some_iff] at h
      obtain ⟨m, hm, rfl⟩ := h
      rw [of_ints hm]
      rfl
    | _ => simp [intsD] at h
def bools : List D → Option (List Bool)
  | [] => some []
  | .bl i :: r => (bools r).map (i :: ·)
  | _ :: _ => none
theorem bools_map (ns : List Bool) : bools (ns.map D.bl) = some ns := by
  induction ns with
  | nil => rfl
  | cons n r ih => simp [bools, ih]
theorem of_bools : ∀ {ds : List D} {ns : List Bool}, bools ds = some ns → ds = ns.map D.bl
  | [], ns, h => by simp [bools] at h; subst h; rfl
  | d :: r, ns, h => by
    cases d with
    | bl i =>
      simp only [bools, Option.map_eq_some_iff] at h
      obtain ⟨m, hm, rfl⟩ := h
      rw [of_bools hm]
      rfl
    | _ => simp [bools] at h
@[simp] def fSum : D → Option D
  | .lst ds => (intsD ds).map fun ns => D.int ns.sum
  | _ => none
def maxI : List Int → Int
  | [] => 0
  | x :: r => r.foldl max x
def minI : List Int → Int
  | [] => 0
  | x :: r => r.foldl min x
@[simp] def fMax : D → Option D
  | .lst ds => match intsD ds with
    | some [] => none
    | some ns => some (.int (maxI ns))
    | none => none
  | _ => none
@[simp] def fMin : D → Option D
  | .lst ds => match intsD ds with
    | some [] => none
    | some ns => some (.int (minI ns))
    | none => none
  | _ => none
@[simp] def fAny : D → Option D
  | .lst ds => (bools ds).map fun bs => D.bl (bs.any id)
  | _ => none
@[simp] def fAll : D → Option D
  | .lst ds => (bools ds).map fun bs => D.bl (bs.all id)
  | _ => none
def sortI (ns : List Int) : List Int := ns.mergeSort (fun a b => decide (a ≤ b))
/-- sorted(xs) of whole numbers -/
@[simp] def sortedI (a : X) : X := fun e => (a e).bind fun x _ => match x with
  | .lst ds => (match intsD ds with
    | some ns => .ok (.lst ((sortI ns).map D.int)) .fresh
    | none => .bad)
  | _ => .bad
/-- isinstance by a decision on the data -/
@[simp] def isi (p : D → Option Bool) (a : X) : X := fun e => (a e).bind fun d _ => match p d with
  | some b => .ok (.bl b) .cold
  | none => .bad
@[simp] def isTup : D → Option Bool
  | .tup _ => some true
  | .lst _ | .int _ | .bl _ | .str _ | .non => some false
  | _ => none
@[simp] def isLst : D → Option Bool
  | .lst _ => some true
  | .tup _ | .int _ | .bl _ | .str _ | .non => some false
  | _ => none
@[simp] def isTL : D → Option Bool
  | .lst _ | .tup _ => some true
  | .int _ | .bl _ | .str _ | .non => some false
  | _ => none
@[simp] def isBl : D → Option Bool
  | .bl _ => some true
  | .lst _ | .tup _ | .int _ | .str _ | .non => some false
  | _ => none
@[simp] def isInt : D → Option Bool
  | .bl _ | .int _ => some true
  | .lst _ | .tup _ | .str _ | .non => some false
  | _ => none
@[simp] def isStr : D → Option Bool
  | .str _ => some true
  | .lst _ | .tup _ | .int _ | .bl _ | .non => some false
  | _ => none
/-! ### what is walked -/
abbrev XI := Env → RA
/-- a list (or the script) that stands still: not a hot one -/
@[simp] def ilst (a : X) : XI := fun e => (a e).bindA fun x c => match c, x with
  | .cold, .lst ds => .ok ds false
  | .fresh, .lst ds => .ok ds false
  | .cold, .frz ns => .ok (ns.map D.int) false
  | _, _ => .bad
@[simp] def itup (a : X) : XI := fun e => (a e).bindA fun x c => match c, x with
  | .cold, .tup ds => .ok ds false
  | _, _ => .bad
def rng (lo hi : Int) : List Int := (List.range (hi - lo).toNat).map fun (i : Nat) => lo + (i : Int)
def lim : Int := 4611686018427387904
@[simp] def irng1 (a : X) : XI := fun e => (a e).bindA fun x _ => match x with
  | .int n => if -lim ≤ n ∧ n < lim then .ok ((rng 0 n).map D.int) false else .bad
  | _ => .bad
@[simp] def irng2 (a b : X) : XI := fun e => (a e).bindA fun x _ => (b e).bindA fun y _ => match x, y with
  | .int l, .int h => if (-lim ≤ l ∧ l < lim) ∧ -lim ≤ h ∧ h < lim then .ok ((rng l h).map D.int) false else .bad
  | _, _ => .bad
/-! ### targets -/
inductive Pat where
  | nm (i : Nat)
  | tp (is : List Nat)
@[simp] def setMany : List Nat → List D → Env → Option Env
  | [], [], e => some e
  | i :: is, d :: ds, e => setMany is ds (e.set i (.cold d))
  | _, _, _ => none
@[simp] def Pat.put : Pat → D → Env → Option Env
  | .nm i, d, e => some (e.set i (.cold d))
  | .tp is, .tup ds, e => setMany is ds e
  | .tp _, _, _ => none
/-! ### comprehensions -/
def wipeE (e : Env) : List Nat → Env
  | [] => e
  | v :: vs => (wipeE e vs).set v .no
/-- one turn: the items that it gives (one or none) -/
@[simp] def lcTurn (p : Pat) (t : XB) (x : X) (e : Env) (d : D) : Option (Option D) := match p.put d e with
  | none => none
  | some e1 => match t e1 with
    | .ok true => (match x e1 with
      | .ok y c => if dirty c y then none else some (some y)
      | _ => none)
    | .ok false => some none
    | _ => none
def lcLoop (p : Pat) (t : XB) (x : X) (e : Env) : List D → List D → Option (List D)
  | [], acc => some acc
  | d :: r, acc => match lcTurn p t x e d with
    | some (some y) => if acc.length < most then lcLoop p t x e r (acc ++ [y]) else none
    | some none => lcLoop p t x e r acc
    | none => none
@[simp] def lc (own : List Nat) (it : XI) (p : Pat) (t : XB) (x : X) : X := fun e => match it e with
  | .ok ds _ => (match lcLoop p t x (wipeE e own) ds [] with
    | some ys => .ok (.lst ys) .fresh
    | none => .bad)
  | _ => .bad
/-! ### statements -/
@[simp] def snop : XS := fun e => .nx e
@[simp] def sbad : XS := fun _ => .bad
@[simp] def seq (a b : XS) : XS := fun e => (a e).bind b
/-- name = value; the value is kept as it is -/
@[simp] def sset (i : Nat) (a : X) : XS := fun e => (a e).bindS e fun d c => if dirty c d then .bad else .nx (e.set i (.cold d))
/-- name = a new list that the frame will change -/
@[simp] def shot (i : Nat) (a : X) : XS := fun e => (a e).bindS e fun d c => match c, d with
  | .fresh, .lst ds => .nx (e.set i (.hot ds))
  | .fresh, .obj k ds => .nx (e.set i (.hob k ds))
  | _, _ => .bad
/-- from here on nothing changes it -/
@[simp] def sfreeze (i : Nat) : XS := fun e => match e[i]? with
  | some (.hot ds) => .nx (e.set i (.cold (.lst ds)))
  | _ => .bad
@[simp] def sunp (is : List Nat) (a : X) : XS := fun e => (a e).bindS e fun d c => if dirty c d then .bad else match Pat.put (.tp is) d e with
  | some e1 => .nx e1
  | none => .bad
/-- a, b = x, y -/
@[simp] def spar (i j : Nat) (a b : X) : XS := fun e => (a e).bindS e fun x c => (b e).bindS e fun y c' => if dirty c x || dirty c' y then .bad else .nx ((e.set i (.cold x)).set j (.cold y))
@[simp] def saug (i : Nat) (f : D → D → Option D) (a : X) : XS := fun e => match e[i]? with
  | some (.cold x) => (a e).bindS e fun y _ => (match f x y with
    | some z => .nx (e.set i (.cold z))
    | none => .bad)
  | _ => .bad
@[simp] def sexpr (a : X) : XS := fun e => (a e).bindS e fun _ _ => .nx e
@[simp] def sapp (i : Nat) (a : X) : XS := fun e => match e[i]? with
  | some (.hot ds) => (a e).bindS e fun d c => if dirty c d then .bad else if ds.length < most then .nx (e.set i (.hot (ds ++ [d]))) else .bad
  | _ => .bad
@[simp] def sext (i : Nat) (a : X) : XS := fun e => match e[i]? with
  | some (.hot ds) => (a e).bindS e fun d c => (match c, d with
    | .fresh, .lst ys => if ds.length + ys.length ≤ most then .nx (e.set i (.hot (ds ++ ys))) else .bad
    | _, _ => .bad)
  | _ => .bad
@[simp] def sclear (i : Nat) : XS := fun e => match e[i]? with
  | some (.hot _) => .nx (e.set i (.hot []))
  | _ => .bad
/-- xs[k] = a -/
@[simp] def sput (i : Nat) (k a : X) : XS := fun e => match e[i]? with
  | some (.hot ds) => (a e).bindS e fun d c => if dirty c d then .bad else (k e).bindS e fun y _ => (match y with
    | .int z => (match ixN ds.length z with
      | some j => .nx (e.set i (.hot (ds.set j d)))
      | none => .bad)
    | _ => .bad)
  | _ => .bad
/-- o.f = a: the k-th field of the object in slot i -/
@[simp] def putK (n k : Nat) (ds : List D) (d : D) : Option (List D) := if k < ds.length then some (ds.set k d) else if k = ds.length then some (ds ++ [d]) else none
@[simp] def sfld (n i k : Nat) (a : X) : XS := fun e => match e[i]? with
  | some (.slf m ds) => if m = n then (a e).bindS e fun d c => (if dirty c d then .bad else match putK n k ds d with
    | some es => .nx (e.set i (.slf n es))
    | none => .bad) else .bad
  | some (.hob m ds) => if m = n then (a e).bindS e fun d c => (if dirty c d then .bad else match putK n k ds d with
    | some es => .nx (e.set i (.hob n es))
    | none => .bad) else .bad
  | _ => .bad
/-- raise C('..'), C without fields -/
@[simp] def sraise (k : Nat) : XS := fun e => .exc k [] e
/-- no exception is held any more -/
def offE (e : Env) : Env := e.map fun s => match s with
  | .exn _ _ => .no
  | s => s
/-- behind the suite of 'except C as n', n's slot being i -/
def sufC (i : Nat) : Ctl → Ctl
  | .nx e => .nx ((offE e).set i .no)
  | .bk e => .bk ((offE e).set i .no)
  | .ct e => .ct ((offE e).set i .no)
  | .rt d c e => .rt d c ((offE e).set i .no)
  | .exc _ _ _ => .bad
  | .bad => .bad
/-- try: b except C as n: h. m tells of each class of error whether the clause takes it -/
def stryX (i : Nat) (m : Nat → Option Bool) (b h : XS) : XS := fun e => match b e with
  | .exc k fs e1 => (match m k with
    | some true => sufC i (h ((offE e1).set i (.exn k fs)))
    | some false => .exc k fs e1
    | none => .bad)
  | r => r
/-- e.f, e the error in slot i -/
@[simp] def exf (n i j : Nat) : X := fun e => match e[i]? with
  | some (.exn k fs) => if k = n then (match fs[j]? with
    | some d => .ok d .cold
    | none => .bad) else .bad
  | _ => .bad
/-- isinstance(e, C), e an error without fields of the class n -/
@[simp] def exis (n i : Nat) (r : Bool) : X := fun e => match e[i]? with
  | some (.exn k []) => if k = n then .ok (.bl r) .cold else .bad
  | _ => .bad
/-- a try whose body raises nothing -/
@[simp] def stryN (b : XS) : XS := fun e => match b e with
  | .exc _ _ _ => .bad
  | r => r
@[simp] def sif (t : XB) (a b : XS) : XS := fun e => (t e).bindS e fun k => if k then a e else b e
@[simp] def sret (a : X) : XS := fun e => (a e).bindS e fun d c => .rt d c e
@[simp] def sretN : XS := fun e => .rt .non .cold e
@[simp] def sbrk : XS := fun e => .bk e
@[simp] def scnt : XS := fun e => .ct e
def forL (p : Pat) (b : XS) : List D → Env → Ctl
  | [], e => .nx e
  | d :: r, e => match p.put d e with
    | none => .bad
    | some e1 => match b e1 with
      | .nx e2 => forL p b r e2
      | .ct e2 => forL p b r e2
      | .bk e2 => .nx e2
      | .rt d c e2 => .rt d c e2
      | .exc k fs e2 => .exc k fs e2
      | .bad => .bad
@[simp] def sfor (it : XI) (p : Pat) (b : XS) : XS := fun e => match it e with
  | .ok ds _ => forL p b ds e
  | _ => .bad
def whileN (t : XB) (b : XS) : Nat → Env → Ctl
  | 0, _ => .bad
  | n + 1, e => (t e).bindS e fun k => if k then (match b e with
      | .nx e2 => whileN t b n e2
      | .ct e2 => whileN t b n e2
      | .bk e2 => .nx e2
      | .rt d c e2 => .rt d c e2
      | .exc k fs e2 => .exc k fs e2
      | .bad => .bad) else .nx e
@[simp] def swhile (n : Nat) (t : XB) (b : XS) : XS := whileN t b n
/-! ### defs -/
/-- the slots at a def's entry -/
@[simp] def enter (n : Nat) (ds : List D) : Env := ds.map S.cold ++ List.replicate (n - ds.length) S.no
@[simp] def outC : Cl → Cl
  | .hot => .fresh
  | .fresh => .fresh
  | _ => .cold
@[simp] def leave : Ctl → R
  | .nx _ => .ok .non .cold
  | .rt d c _ => .ok d (outC c)
  | .exc k fs _ => .exc k fs
  | _ => .bad
def fn (n : Nat) (b : XS) (ds : List D) : R := leave (b (enter n ds))
/-- an __init__ of a class: slot 0 is the new object -/
@[simp] def leaveI (c : Nat) : Ctl → R
  | .nx (.slf k fs :: _) => if k = c then .ok (.obj c fs) .fresh else .bad
  | .exc k fs _ => .exc k fs
  | _ => .bad
theorem leaveI_obj {c : Nat} {r : Ctl} {d : D} {cl : Cl} (h : leaveI c r = .ok d cl) : ∃ fs, d = .obj c fs := by
  unfold leaveI at h
  split at h
  · split at h
    · cases h; exact ⟨_, rfl⟩
    · cases h
  · cases h
  · cases h
def fnI (c n : Nat) (b : XS) (ds : List D) : R := leaveI c (b (.slf c [] :: enter (n - 1) ds))
/-- the same, the arguments borrowed: nothing of them is kept -/
@[simp] def enterB (n : Nat) (ds : List D) : Env := ds.map S.bor ++ List.replicate (n - ds.length) S.no
def fnIB (c n : Nat) (b : XS) (ds : List D) : R := leaveI c (b (.slf c [] :: enterB (n - 1) ds))
end Q

set_option Elab.async false
set_option linter.all false
set_option maxRecDepth 100000
set_option maxHeartbeats 4000000
/-! The walk's side: how the forms' plain meaning (PyD) is what the machine does. Canonical readings tE, tT, tA, tS over the layer. -/
namespace QW
open PySem PySem.Spec PyProof.Rows L2
open Q (D S R RA RB Ctl Cl Pat)

structure Cfg where
  K : PySem.W.Frag
  cls : Nat → Addr
  names : Nat → List Str
  exn : Option (Addr × Value × Option Addr) := none

abbrev Reg := Addr → Prop
theorem rd_mono {H H' : Hp} {a : Addr} {u : HO} (s : Same H H') (h : Rd H a u) : Rd H' a u := by
  rcases h with h | ⟨o, h⟩
  · exact .inl (s a _ h)
  · exact .inr ⟨o, s a _ h⟩
def KL (K : PySem.W.Frag) (a : Addr) (xs : List V) : Prop :=
  ∃ (o : Obj) (its : Array Value) (n : Nat), K.lookup a = some o ∧ o.cls = .type "list" ∧ o.dict = none ∧ o.data = .seq its n ∧ its.size ≤ sizeLine ∧ Vals xs its.toList

inductive Rep (G : Cfg) (A : Reg) (H : Hp) : V → D → Prop
  | non : Rep G A H .non .non
  | bl (b : Bool) : Rep G A H (.bl b) (.bl b)
  | int (i : Int) : Rep G A H (.int i) (.int i)
  | str (x : Str) : Rep G A H (.str x) (.str x)
  | lst {a : Addr} {vs : List V} {ds : List D} (ha : A a) (h : H a = some (.lst vs)) (hl : vs.length = ds.length) (hr : ∀ (i : Nat) v d, vs[i]? = some v → ds[i]? = some d → Rep G A H v d) : Rep G A H (.ref a) (.lst ds)
  | tup {a : Addr} {vs : List V} {ds : List D} (ha : A a) (h : H a = some (.tup vs)) (hl : vs.length = ds.length) (hr : ∀ (i : Nat) v d, vs[i]? = some v → ds[i]? = some d → Rep G A H v d) : Rep G A H (.ref a) (.tup ds)
  | frz {a : Addr} {ns : List Int} (h : (A a ∧ Rd H a (.lst (ns.map V.int))) ∨ KL G.K a (ns.map V.int)) : Rep G A H (.ref a) (.frz ns)
  | obj {a dx : Addr} {c : Nat} {vs : List V} {ds : List D} (ha : A a) (h : H a = some (.ins (G.cls c) dx ((G.names c).zip vs))) (hl : vs.length = ds.length) (hr : ∀ (i : Nat) v d, vs[i]? = some v → ds[i]? = some d → Rep G A H v d) : Rep G A H (.ref a) (.obj c ds)
def Reps (G : Cfg) (A : Reg) (H : Hp) (vs : List V) (ds : List D) : Prop := vs.length = ds.length ∧ ∀ (i : Nat) v d, vs[i]? = some v → ds[i]? = some d → Rep G A H v d

section
variable {G : Cfg} {A B : Reg} {H H' : Hp} {v : V} {d : D} {vs : List V} {ds : List D}
theorem Rep.mono (h : Rep G A H v d) (s : Same H H') (m : ∀ a, A a → B a) : Rep G B H' v d := by
  induction h with
  | non => exact .non
  | bl b => exact .bl b
  | int i => exact .int i
  | str x => exact .str x
  | lst ha h hl _ ih => exact .lst (m _ ha) (s _ _ h) hl ih
  | tup ha h hl _ ih => exact .tup (m _ ha) (s _ _ h) hl ih
  | frz h =>
    refine .frz ?_
    rcases h with ⟨ha, h⟩ | h
    · exact .inl ⟨m _ ha, rd_mono s h⟩
    · exact .inr h
  | obj ha h hl _ ih => exact .obj (m _ ha) (s _ _ h) hl ih
theorem Rep.later (h : Rep G A H v d) (s : Same H H') : Rep G A H' v d := h.mono s fun _ x => x
theorem Rep.wider (h : Rep G A H v d) (m : ∀ a, A a → B a) : Rep G B H v d := h.mono (Same.refl _) m
theorem Rep.upd {p : Addr} {o : HO} (h : Rep G A H v d) (hp : ¬ A p) : Rep G A (upd H p o) v d := by
  have ne : ∀ a, A a → a ≠ p := fun a ha e => hp (e ▸ ha)
  induction h with
  | non => exact .non
  | bl b => exact .bl b
  | int i => exact .int i
  | str x => exact .str x
  | lst ha h hl _ ih => exact .lst ha (by rw [upd_ne (ne _ ha)]; exact h) hl ih
  | tup ha h hl _ ih => exact .tup ha (by rw [upd_ne (ne _ ha)]; exact h) hl ih
  | frz h =>
    refine .frz ?_
    rcases h with ⟨ha, h⟩ | h
    · refine .inl ⟨ha, ?_⟩
      rcases h with h | ⟨o, h⟩
      · exact .inl (by rw [upd_ne (ne _ ha)]; exact h)
      · exact .inr ⟨o, by rw [upd_ne (ne _ ha)]; exact h⟩
    · exact .inr h
  | obj ha h hl _ ih => exact .obj ha (by rw [upd_ne (ne _ ha)]; exact h) hl ih
/-- what a datum leans on stands in the heap -/
theorem Rep.dom (h : Rep G A H v d) : Rep G (fun a => A a ∧ H a ≠ none) H v d := by
  induction h with
  | non => exact .non
  | bl b => exact .bl b
  | int i => exact .int i
  | str x => exact .str x
  | lst ha h hl _ ih => exact .lst ⟨ha, by rw [h]; exact fun z => nomatch z⟩ h hl ih
  | tup ha h hl _ ih => exact .tup ⟨ha, by rw [h]; exact fun z => nomatch z⟩ h hl ih
  | frz h =>
    refine .frz ?_
    rcases h with ⟨ha, h⟩ | h
    · refine .inl ⟨⟨ha, ?_⟩, h⟩
      rcases h with h | ⟨o, h⟩ <;> (rw [h]; exact fun z => nomatch z)
    · exact .inr h
  | obj ha h hl _ ih => exact .obj ⟨ha, by rw [h]; exact fun z => nomatch z⟩ h hl ih
theorem Rep.scalar (h : Rep G A H v d) (s : d.scalar = true) : Rep G B H' v d := by
  cases h with
  | non => exact .non
  | bl b => exact .bl b
  | int i => exact .int i
  | str x => exact .str x
  | lst => simp [Q.D.scalar] at s
  | tup => simp [Q.D.scalar] at s
  | frz => simp [Q.D.scalar] at s
  | obj => simp [Q.D.scalar] at s
theorem Reps.mono (h : Reps G A H vs ds) (s : Same H H') (m : ∀ a, A a → B a) : Reps G B H' vs ds := ⟨h.1, fun i v d a b => (h.2 i v d a b).mono s m⟩
theorem Reps.later (h : Reps G A H vs ds) (s : Same H H') : Reps G A H' vs ds := h.mono s fun _ x => x
theorem Reps.upd {p : Addr} {o : HO} (h : Reps G A H vs ds) (hp : ¬ A p) : Reps G A (L2.upd H p o) vs ds := ⟨h.1, fun i v d a b => (h.2 i v d a b).upd hp⟩
theorem Reps.dom (h : Reps G A H vs ds) : Reps G (fun a => A a ∧ H a ≠ none) H vs ds := ⟨h.1, fun i v d a b => (h.2 i v d a b).dom⟩
theorem Reps.nil : Reps G A H [] [] := ⟨rfl, fun i v d a => by simp at a⟩
theorem Reps.cons (h : Rep G A H v d) (r : Reps G A H vs ds) : Reps G A H (v :: vs) (d :: ds) := by
  refine ⟨by simp [r.1], fun i x y a b => ?_⟩
  cases i with
  | zero =>
    simp at a b
    subst a b
    exact h
  | succ i => exact r.2 i x y (by simpa using a) (by simpa using b)
theorem Reps.head (r : Reps G A H (v :: vs) (d :: ds)) : Rep G A H v d := r.2 0 v d rfl rfl
theorem Reps.tail (r : Reps G A H (v :: vs) (d :: ds)) : Reps G A H vs ds := ⟨by have := r.1; simpa using this, fun i x y a b => r.2 (i + 1) x y (by simpa using a) (by simpa using b)⟩
theorem Reps.nil_iff (r : Reps G A H vs ds) : vs = [] ↔ ds = [] := by
  have := r.1
  constructor
  · rintro rfl; exact List.length_eq_zero_iff.mp this.symm
  · rintro rfl; exact List.length_eq_zero_iff.mp this
theorem Reps.get (r : Reps G A H vs ds) {i : Nat} (h : ds[i]? = some d) : ∃ v, vs[i]? = some v ∧ Rep G A H v d := by
  have hi : i < vs.length := by rw [r.1]; exact (List.getElem?_eq_some_iff.mp h).1
  exact ⟨vs[i], List.getElem?_eq_getElem hi, r.2 i _ d (List.getElem?_eq_getElem hi) h⟩
theorem Reps.append {us : List V} {es : List D} (r : Reps G A H vs ds) (q : Reps G A H us es) : Reps G A H (vs ++ us) (ds ++ es) := by
  refine ⟨by simp [r.1, q.1], fun i v d a b => ?_⟩
  by_cases hi : i < vs.length
  · rw [List.getElem?_append_left hi] at a
    rw [List.getElem?_append_left (by rw [← r.1]; exact hi)] at b
    exact r.2 i v d a b
  · rw [List.getElem?_append_right (by omega)] at a
    rw [List.getElem?_append_right (by rw [← r.1]; omega), ← r.1] at b
    exact q.2 _ v d a b
theorem Reps.set (r : Reps G A H vs ds) (h : Rep G A H v d) (j : Nat) : Reps G A H (vs.set j v) (ds.set j d) := by
  refine ⟨by simp [r.1], fun i x y a b => ?_⟩
  by_cases e : j = i
  · subst e
    have h1 := (List.getElem?_eq_some_iff.mp a).1
    have h2 := (List.getElem?_eq_some_iff.mp b).1
    rw [List.getElem?_set_self (by simpa using h1)] at a
    rw [List.getElem?_set_self (by simpa using h2)] at b
    cases a; cases b
    exact h
  · rw [List.getElem?_set_ne e] at a b
    exact r.2 i x y a b
theorem Reps.drop (r : Reps G A H vs ds) (n : Nat) : Reps G A H (vs.drop n) (ds.drop n) := ⟨by simp [r.1], fun i x y a b => r.2 (n + i) x y (by simpa [List.getElem?_drop] using a) (by simpa [List.getElem?_drop] using b)⟩
theorem Reps.take (r : Reps G A H vs ds) (n : Nat) : Reps G A H (vs.take n) (ds.take n) := by
  refine ⟨by simp [r.1], fun i x y a b => ?_⟩
  rw [List.getElem?_take] at a b
  split at a
  · rename_i h; rw [if_pos h] at b; exact r.2 i x y a b
  · cases a
theorem Reps.intsD (r : Reps G A H vs ds) {ns : List Int} (h : ds = ns.map D.int) : vs = ns.map V.int := by
  subst h
  apply List.ext_getElem?
  intro i
  by_cases hi : i < ns.length
  · have e : (ns.map D.int)[i]? = some (.int ns[i]) := by rw [List.getElem?_map, List.getElem?_eq_getElem hi]; rfl
    obtain ⟨v, h1, h2⟩ := r.get e
    rw [h1, List.getElem?_map, List.getElem?_eq_getElem hi]
    cases h2
    rfl
  · have h1 : vs.length = ns.length := by simpa using r.1
    rw [List.getElem?_eq_none (by omega), List.getElem?_eq_none (by simpa using hi)]
theorem reps_ints (ns : List Int) : Reps G A H (ns.map V.int) (ns.map D.int) := by
  refine ⟨by simp, fun i v d a b => ?_⟩
  rw [List.getElem?_map] at a b
  cases e : ns[i]? with
  | none => rw [e] at a; cases a
  | some n =>
    rw [e] at a b
    cases a; cases b
    exact .int n
theorem Reps.bools (r : Reps G A H vs ds) {ns : List Bool} (h : ds = ns.map D.bl) : vs = ns.map V.bl := by
  subst h
  apply List.ext_getElem?
  intro i
  by_cases hi : i < ns.length
  · have e : (ns.map D.bl)[i]? = some (.bl ns[i]) := by rw [List.getElem?_map, List.getElem?_eq_getElem hi]; rfl
    obtain ⟨v, h1, h2⟩ := r.get e
    rw [h1, List.getElem?_map, List.getElem?_eq_getElem hi]
    cases h2
    rfl
  · have h1 : vs.length = ns.length := by simpa using r.1
    rw [List.getElem?_eq_none (by omega), List.getElem?_eq_none (by simpa using hi)]
theorem KL.sq {K : PySem.W.Frag} {a : Addr} {xs : List V} (h : KL K a xs) : SqL K H a xs := .inr h
/-- a list (of the frame's, or the script) as the layer reads it -/
theorem Rep.lstSq {a : Addr} (h : Rep G A H (.ref a) (.lst ds)) : ∃ vs, H a = some (.lst vs) ∧ SqL G.K H a vs ∧ Reps G A H vs ds := by
  cases h with
  | lst ha h hl hr => exact ⟨_, h, SqL.of h, hl, hr⟩
theorem Rep.tupSq {a : Addr} (h : Rep G A H (.ref a) (.tup ds)) : ∃ vs, H a = some (.tup vs) ∧ SqT G.K H a vs ∧ Reps G A H vs ds := by
  cases h with
  | tup ha h hl hr => exact ⟨_, h, SqT.of h, hl, hr⟩
theorem Rep.frzSq {a : Addr} {ns : List Int} (h : Rep G A H (.ref a) (.frz ns)) : SqL G.K H a (ns.map V.int) := by
  cases h with
  | frz h =>
    rcases h with ⟨_, h⟩ | h
    · exact .inl h
    · exact .inr h
theorem Rep.of_frz {a : Addr} {ns : List Int} (ha : A a) (h : SqL G.K H a (ns.map V.int)) : Rep G A H (.ref a) (.frz ns) := by
  rcases h with h | h
  · exact .frz (.inl ⟨ha, h⟩)
  · exact .frz (.inr h)
theorem Rep.int_inv {i : Int} (h : Rep G A H v (.int i)) : v = .int i := by cases h; rfl
theorem Rep.bl_inv {i : Bool} (h : Rep G A H v (.bl i)) : v = .bl i := by cases h; rfl
theorem Rep.str_inv {i : Str} (h : Rep G A H v (.str i)) : v = .str i := by cases h; rfl
theorem Rep.non_inv (h : Rep G A H v .non) : v = .non := by cases h; rfl
theorem Rep.lst_inv (h : Rep G A H v (.lst ds)) : ∃ a, v = .ref a := by cases h; exact ⟨_, rfl⟩
theorem Rep.tup_inv (h : Rep G A H v (.tup ds)) : ∃ a, v = .ref a := by cases h; exact ⟨_, rfl⟩
theorem Rep.frz_inv {ns : List Int} (h : Rep G A H v (.frz ns)) : ∃ a, v = .ref a := by cases h; exact ⟨_, rfl⟩
theorem Rep.obj_inv {c : Nat} (h : Rep G A H v (.obj c ds)) : ∃ a, v = .ref a := by cases h; exact ⟨_, rfl⟩
end

/-! ### a frame's slots -/
/-- a frame: what of the arguments is cold, the heap at the entry, the arguments' objects that it may change, what it only borrows -/
structure Fm where
  A0 : Reg
  H0 : Hp
  ms : List Addr
  B : Reg
def Cold (fm : Fm) (hs : List Addr) : Reg := fun a => (fm.A0 a ∨ fm.H0 a = none) ∧ a ∉ hs
def TR (fm : Fm) (hs : List Addr) : Reg := fun a => (fm.A0 a ∨ fm.H0 a = none) ∨ a ∈ hs ∨ fm.B a
/-- an exception in the air: A where its fields' values lie, N where its own dict lies -/
def RepX (G : Cfg) (A N : Reg) (H : Hp) (cls : Value) (dd : Option Addr) (k : Nat) (fs : List D) : Prop :=
  cls = .ref (G.cls k) ∧ ((fs = [] ∧ dd = none) ∨ fs ≠ [] ∧ ∃ a fvs, dd = some a ∧ N a ∧ H a = some (.xd fvs) ∧ ∀ (i : Nat) f d, (G.names k)[i]? = some f → fs[i]? = some d → ∃ v, fvs.lookup f = some v ∧ Rep G A H v d)
theorem RepX.mono {G : Cfg} {A B N N' : Reg} {H H' : Hp} {cls : Value} {dd : Option Addr} {k : Nat} {fs : List D} (h : RepX G A N H cls dd k fs) (s : Same H H') (m : ∀ a, A a → B a) (n : ∀ a, N a → N' a) : RepX G B N' H' cls dd k fs := by
  obtain ⟨e, h⟩ := h
  refine ⟨e, ?_⟩
  rcases h with h | ⟨h0, a, fvs, h1, hn, h2, h3⟩
  · exact .inl h
  · refine .inr ⟨h0, a, fvs, h1, n _ hn, s _ _ h2, fun i f d q r => ?_⟩
    obtain ⟨v, x, y⟩ := h3 i f d q r
    exact ⟨v, x, y.mono s m⟩
def New (fm : Fm) (hs : List Addr) : Reg := fun a => fm.H0 a = none ∧ a ∉ hs
def SlotOk (G : Cfg) (fm : Fm) (hs : List Addr) (H : Hp) : S → Option (Option V) → Prop
  | .no, _ => True
  | .cold d, o => ∃ v, o = some (some v) ∧ Rep G (Cold fm hs) H v d
  | .hot ds, o => ∃ p vs, o = some (some (.ref p)) ∧ p ∈ hs ∧ fm.H0 p = none ∧ H p = some (.lst vs) ∧ Reps G (Cold fm hs) H vs ds
  | .hob c ds, o => ∃ p dx vs, o = some (some (.ref p)) ∧ p ∈ hs ∧ fm.H0 p = none ∧ H p = some (.ins (G.cls c) dx ((G.names c).zip vs)) ∧ Reps G (Cold fm hs) H vs ds
  | .slf c ds, o => ∃ p dx vs, o = some (some (.ref p)) ∧ p ∈ hs ∧ p ∈ fm.ms ∧ H p = some (.ins (G.cls c) dx ((G.names c).zip vs)) ∧ Reps G (Cold fm hs) H vs ds
  | .bor d, o => ∃ v, o = some (some v) ∧ Rep G fm.B H v d
  | .exn k fs, o => ∃ a cls dd, G.exn = some (a, cls, dd) ∧ o = some (some (.ref a)) ∧ RepX G (Cold fm hs) (New fm hs) H cls dd k fs
def isHot : S → Prop
  | .hot _ => True
  | .hob _ _ => True
  | .slf _ _ => True
  | _ => False
structure EnvOk (G : Cfg) (fm : Fm) (hs : List Addr) (env : Q.Env) (ks : List (V × D)) (σ : L2.St) (H : Hp) : Prop where
  ex : ∀ a o, a ∉ fm.ms → fm.H0 a = some o → H a = some o
  len : σ.length = env.length
  bor : ∀ a, fm.B a → fm.H0 a ≠ none ∧ a ∉ fm.ms
  ms0 : ∀ a ∈ fm.ms, fm.H0 a ≠ none
  msh : ∀ a ∈ fm.ms, a ∈ hs
  hn : ∀ a ∈ hs, (a ∈ fm.ms ∨ fm.H0 a = none) ∧ H a ≠ none
  slot : ∀ (i : Nat) s, env[i]? = some s → SlotOk G fm hs H s σ[i]?
  inj : ∀ (i j : Nat) s t p, env[i]? = some s → env[j]? = some t → isHot s → isHot t → σ[i]? = some (some (.ref p)) → σ[j]? = some (some (.ref p)) → i = j
  fr : ∀ k ∈ ks, Rep G (Cold fm hs) H k.1 k.2
section
variable {G : Cfg} {fm : Fm} {H H' : Hp} {hs : List Addr} {env : Q.Env} {ks : List (V × D)} {σ : L2.St}
theorem SlotOk.later {s : S} {o : Option (Option V)} (h : SlotOk G fm hs H s o) (e : Same H H') : SlotOk G fm hs H' s o := by
  cases s with
  | no => trivial
  | cold d =>
    obtain ⟨v, a, b⟩ := h
    exact ⟨v, a, b.later e⟩
  | hot ds =>
    obtain ⟨p, vs, a, b, n, c, d⟩ := h
    exact ⟨p, vs, a, b, n, e _ _ c, d.later e⟩
  | hob k ds =>
    obtain ⟨p, dx, vs, a, b, n, c, d⟩ := h
    exact ⟨p, dx, vs, a, b, n, e _ _ c, d.later e⟩
  | slf k ds =>
    obtain ⟨p, dx, vs, a, b, n, c, d⟩ := h
    exact ⟨p, dx, vs, a, b, n, e _ _ c, d.later e⟩
  | bor d =>
    obtain ⟨v, a, b⟩ := h
    exact ⟨v, a, b.later e⟩
  | exn k fs =>
    obtain ⟨a, cls, dd, b, c, r⟩ := h
    exact ⟨a, cls, dd, b, c, r.mono e (fun _ h => h) fun _ h => h⟩
theorem ne_none_later (e : Same H H') {a : Addr} (h : H a ≠ none) : H' a ≠ none := by
  cases q : H a with
  | none => exact absurd q h
  | some o => rw [e _ _ q]; exact fun z => nomatch z
theorem EnvOk.later (h : EnvOk G fm hs env ks σ H) (e : Same H H') : EnvOk G fm hs env ks σ H' where
  ex := fun a o n q => e a o (h.ex a o n q)
  len := h.len
  bor := h.bor
  ms0 := h.ms0
  msh := h.msh
  hn := fun a q => ⟨(h.hn a q).1, ne_none_later e (h.hn a q).2⟩
  slot := fun i s q => (h.slot i s q).later e
  inj := h.inj
  fr := fun k q => (h.fr k q).later e
theorem EnvOk.drop (h : EnvOk G fm hs env ks σ H) : EnvOk G fm hs env [] σ H := { h with fr := fun k q => by simp at q }
theorem EnvOk.more {k : V × D} (h : EnvOk G fm hs env ks σ H) (r : Rep G (Cold fm hs) H k.1 k.2) : EnvOk G fm hs env (k :: ks) σ H :=
  { h with fr := fun q m => (List.mem_cons.mp m).elim (fun e => e ▸ r) (h.fr q) }
theorem EnvOk.newH0 (h : EnvOk G fm hs env ks σ H) {p : Addr} (hp : H p = none) : fm.H0 p = none := by
  have nh : p ∉ hs := fun m => (h.hn p m).2 hp
  cases q : fm.H0 p with
  | none => rfl
  | some o =>
    have := h.ex p o (fun m => nh (h.msh p m)) q
    rw [hp] at this
    cases this
theorem EnvOk.newNew (h : EnvOk G fm hs env ks σ H) {p : Addr} (hp : H p = none) : New fm hs p := ⟨h.newH0 hp, fun m => (h.hn p m).2 hp⟩
/-- a place that the heap does not know is cold to the frame -/
theorem EnvOk.newCold (h : EnvOk G fm hs env ks σ H) {p : Addr} (hp : H p = none) : Cold fm hs p := ⟨.inr (h.newH0 hp), fun m => (h.hn p m).2 hp⟩
end
/-- a value behind an evaluation that began at H -/
def VOk (G : Cfg) (fm : Fm) (hs : List Addr) (H H' : Hp) (v : V) (d : D) : Cl → Prop
  | .cold => Rep G (Cold fm hs) H' v d
  | .fresh => (∃ p vs ds, v = .ref p ∧ d = .lst ds ∧ H p = none ∧ H' p = some (.lst vs) ∧ Reps G (fun a => Cold fm hs a ∧ a ≠ p) H' vs ds) ∨
      ∃ p dx vs c ds, v = .ref p ∧ d = .obj c ds ∧ H p = none ∧ H' p = some (.ins (G.cls c) dx ((G.names c).zip vs)) ∧ Reps G (fun a => Cold fm hs a ∧ a ≠ p) H' vs ds
  | .hot => (∃ p vs ds, v = .ref p ∧ d = .lst ds ∧ p ∈ hs ∧ H' p = some (.lst vs) ∧ Reps G (Cold fm hs) H' vs ds) ∨
      ∃ p dx vs c ds, v = .ref p ∧ d = .obj c ds ∧ p ∈ hs ∧ H' p = some (.ins (G.cls c) dx ((G.names c).zip vs)) ∧ Reps G (Cold fm hs) H' vs ds
  | .taint => Rep G (TR fm hs) H' v d
section
variable {G : Cfg} {fm : Fm} {H H' H1 : Hp} {hs : List Addr} {env : Q.Env} {ks : List (V × D)} {σ : L2.St} {v : V} {d : D} {c : Cl}
theorem VOk.later (h : VOk G fm hs H H' v d c) (s : Same H' H1) : VOk G fm hs H H1 v d c := by
  cases c with
  | cold => exact Rep.later h s
  | taint => exact Rep.later h s
  | fresh =>
    rcases h with ⟨p, vs, ds, a, b, c, d, e⟩ | ⟨p, dx, vs, k, ds, a, b, c, d, e⟩
    · exact .inl ⟨p, vs, ds, a, b, c, s _ _ d, e.later s⟩
    · exact .inr ⟨p, dx, vs, k, ds, a, b, c, s _ _ d, e.later s⟩
  | hot =>
    rcases h with ⟨p, vs, ds, a, b, c, d, e⟩ | ⟨p, dx, vs, k, ds, a, b, c, d, e⟩
    · exact .inl ⟨p, vs, ds, a, b, c, s _ _ d, e.later s⟩
    · exact .inr ⟨p, dx, vs, k, ds, a, b, c, s _ _ d, e.later s⟩
/-- begun earlier -/
theorem VOk.earlier (h : VOk G fm hs H H' v d c) (s : Same H1 H) : VOk G fm hs H1 H' v d c := by
  cases c with
  | cold => exact h
  | taint => exact h
  | fresh =>
    rcases h with ⟨p, vs, ds, a, b, c, d, e⟩ | ⟨p, dx, vs, k, ds, a, b, c, d, e⟩
    · exact .inl ⟨p, vs, ds, a, b, s.free c, d, e⟩
    · exact .inr ⟨p, dx, vs, k, ds, a, b, s.free c, d, e⟩
  | hot => exact h
theorem VOk.anyR (h : VOk G fm hs H H' v d c) (E : EnvOk G fm hs env ks σ H) : Rep G (TR fm hs) H' v d := by
  cases c with
  | cold => exact Rep.wider h fun a q => .inl q.1
  | taint => exact h
  | fresh =>
    rcases h with ⟨p, vs, ds, rfl, rfl, c, d, e⟩ | ⟨p, dx, vs, k, ds, rfl, rfl, c, d, e⟩
    · exact .lst (.inl (E.newCold c).1) d e.1 fun i v d a b => (e.2 i v d a b).wider fun a q => .inl q.1.1
    · exact .obj (.inl (E.newCold c).1) d e.1 fun i v d a b => (e.2 i v d a b).wider fun a q => .inl q.1.1
  | hot =>
    rcases h with ⟨p, vs, ds, rfl, rfl, c, d, e⟩ | ⟨p, dx, vs, k, ds, rfl, rfl, c, d, e⟩
    · exact .lst (.inr (.inl c)) d e.1 fun i v d a b => (e.2 i v d a b).wider fun a q => .inl q.1
    · exact .obj (.inr (.inl c)) d e.1 fun i v d a b => (e.2 i v d a b).wider fun a q => .inl q.1
theorem VOk.clean (h : VOk G fm hs H H' v d c) (E : EnvOk G fm hs env ks σ H) (hd : Q.dirty c d = false) : Rep G (Cold fm hs) H' v d := by
  cases c with
  | cold => exact h
  | taint =>
    have s : d.scalar = true := by simpa [Q.dirty] using hd
    exact Rep.scalar (h : Rep G _ H' v d) s
  | fresh =>
    rcases h with ⟨p, vs, ds, rfl, rfl, c, d, e⟩ | ⟨p, dx, vs, k, ds, rfl, rfl, c, d, e⟩
    · exact .lst (E.newCold c) d e.1 fun i v d a b => (e.2 i v d a b).wider fun a q => q.1
    · exact .obj (E.newCold c) d e.1 fun i v d a b => (e.2 i v d a b).wider fun a q => q.1
  | hot => simp [Q.dirty] at hd
/-- a scalar is a scalar however it is held -/
theorem VOk.scal (h : VOk G fm hs H H' v d c) (E : EnvOk G fm hs env ks σ H) (s : d.scalar = true) {B : Reg} {H2 : Hp} : Rep G B H2 v d := (h.anyR E).scalar s
end

/-! ### what is wanted behind an evaluation -/
section
variable (G : Cfg) (W : WX) (fm : Fm) (hs : List Addr) (σ : L2.St)
def AccR (H : Hp) (r : R) (P : D → Cl → V → Hp → Prop) : Prop := match r with
  | .ok d c => ∀ v H', Same H H' → VOk G fm hs H H' v d c → P d c v H'
  | .exc k fs => ∀ cls dd H', Same H H' → RepX G (Cold fm hs) (New fm hs) H' cls dd k fs → W cls dd σ H'
  | .bad => False
def AccA (H : Hp) (r : RA) (P : List D → Bool → List V → Hp → Prop) : Prop := match r with
  | .ok ds t => ∀ vs H', Same H H' → Reps G (fun a => Cold fm hs a ∨ (t = true ∧ TR fm hs a)) H' vs ds → P ds t vs H'
  | .exc k fs => ∀ cls dd H', Same H H' → RepX G (Cold fm hs) (New fm hs) H' cls dd k fs → W cls dd σ H'
  | .bad => False
def AccB (H : Hp) (r : RB) (P : Bool → Hp → Prop) : Prop := match r with
  | .ok b => ∀ H', Same H H' → P b H'
  | .exc k fs => ∀ cls dd H', Same H H' → RepX G (Cold fm hs) (New fm hs) H' cls dd k fs → W cls dd σ H'
  | .bad => False
end
/-- the canonical readings -/
def tE (G : Cfg) (W : WX) (ev : Q.X) : TE := fun σ H P => ∃ fm hs env, EnvOk G fm hs env [] σ H ∧ AccR G W fm hs σ H (ev env) fun _ _ v H' => P v H'
def tA (G : Cfg) (W : WX) (ev : Q.XA) : TA := fun σ H P => ∃ fm hs env, EnvOk G fm hs env [] σ H ∧ AccA G W fm hs σ H (ev env) fun _ _ vs H' => P vs H'
def tT (G : Cfg) (W : WX) (ev : Q.XB) : TT := fun σ H P => ∃ fm hs env, EnvOk G fm hs env [] σ H ∧ AccB G W fm hs σ H (ev env) P
section
variable {G : Cfg} {W : WX} {fm : Fm} {H H1 : Hp} {hs : List Addr} {env : Q.Env} {σ : L2.St}
theorem AccR.imp {r : R} {P P' : D → Cl → V → Hp → Prop} (h : AccR G W fm hs σ H r P) (m : ∀ d c v H', r = .ok d c → Same H H' → VOk G fm hs H H' v d c → P d c v H' → P' d c v H') : AccR G W fm hs σ H r P' := by
  cases r with
  | ok d c => exact fun v H' s q => m d c v H' rfl s q (h v H' s q)
  | exc k fs => exact h
  | bad => exact h
theorem AccR.later {r : R} {P : D → Cl → V → Hp → Prop} (h : AccR G W fm hs σ H r P) (s : Same H H1) : AccR G W fm hs σ H1 r P := by
  cases r with
  | ok d c => exact fun v H' s' q => h v H' (s.trans s') (q.earlier s)
  | exc k fs => exact fun cls dd H' s' q => h cls dd H' (s.trans s') q
  | bad => exact h
theorem AccA.imp {r : RA} {P P' : List D → Bool → List V → Hp → Prop} (h : AccA G W fm hs σ H r P)
    (m : ∀ ds t vs H', r = .ok ds t → Same H H' → Reps G (fun a => Cold fm hs a ∨ (t = true ∧ TR fm hs a)) H' vs ds → P ds t vs H' → P' ds t vs H') : AccA G W fm hs σ H r P' := by
  cases r with
  | ok d c => exact fun v H' s q => m d c v H' rfl s q (h v H' s q)
  | exc k fs => exact h
  | bad => exact h
theorem AccA.later {r : RA} {P : List D → Bool → List V → Hp → Prop} (h : AccA G W fm hs σ H r P) (s : Same H H1) : AccA G W fm hs σ H1 r P := by
  cases r with
  | ok d c => exact fun v H' s' q => h v H' (s.trans s') q
  | exc k fs => exact fun cls dd H' s' q => h cls dd H' (s.trans s') q
  | bad => exact h
theorem AccB.imp {r : RB} {P P' : Bool → Hp → Prop} (h : AccB G W fm hs σ H r P) (m : ∀ b H', r = .ok b → Same H H' → P b H' → P' b H') : AccB G W fm hs σ H r P' := by
  cases r with
  | ok d => exact fun H' s => m d H' rfl s (h H' s)
  | exc k fs => exact h
  | bad => exact h
theorem AccB.later {r : RB} {P : Bool → Hp → Prop} (h : AccB G W fm hs σ H r P) (s : Same H H1) : AccB G W fm hs σ H1 r P := by
  cases r with
  | ok d => exact fun H' s' => h H' (s.trans s')
  | exc k fs => exact fun cls dd H' s' q => h cls dd H' (s.trans s') q
  | bad => exact h
theorem acc_bind {r : R} {f : D → Cl → R} {P : D → Cl → V → Hp → Prop} (h : AccR G W fm hs σ H (r.bind f) P) :
    AccR G W fm hs σ H r fun d c _ H' => AccR G W fm hs σ H' (f d c) P := by
  cases r with
  | ok d c => exact fun v H' s q => AccR.later h s
  | exc k fs => exact h
  | bad => exact h
theorem acc_bindA {r : R} {f : D → Cl → RA} {P : List D → Bool → List V → Hp → Prop} (h : AccA G W fm hs σ H (r.bindA f) P) :
    AccR G W fm hs σ H r fun d c _ H' => AccA G W fm hs σ H' (f d c) P := by
  cases r with
  | ok d c => exact fun v H' s q => AccA.later h s
  | exc k fs => exact h
  | bad => exact h
theorem acc_bindB {r : R} {f : D → Cl → RB} {P : Bool → Hp → Prop} (h : AccB G W fm hs σ H (r.bindB f) P) :
    AccR G W fm hs σ H r fun d c _ H' => AccB G W fm hs σ H' (f d c) P := by
  cases r with
  | ok d c => exact fun v H' s q => AccB.later h s
  | exc k fs => exact h
  | bad => exact h
theorem accA_bind {r : RA} {f : List D → Bool → R} {P : D → Cl → V → Hp → Prop} (h : AccR G W fm hs σ H (r.bind f) P) :
    AccA G W fm hs σ H r fun d c _ H' => AccR G W fm hs σ H' (f d c) P := by
  cases r with
  | ok d c => exact fun v H' s q => AccR.later h s
  | exc k fs => exact h
  | bad => exact h
theorem accB_bind {r : RB} {f : Bool → R} {P : D → Cl → V → Hp → Prop} (h : AccR G W fm hs σ H (r.bind f) P) :
    AccB G W fm hs σ H r fun d H' => AccR G W fm hs σ H' (f d) P := by
  cases r with
  | ok d => exact fun H' s => AccR.later h s
  | exc k fs => exact h
  | bad => exact h
theorem accB_bindB {r : RB} {f : Bool → RB} {P : Bool → Hp → Prop} (h : AccB G W fm hs σ H (r.bindB f) P) :
    AccB G W fm hs σ H r fun d H' => AccB G W fm hs σ H' (f d) P := by
  cases r with
  | ok d => exact fun H' s => AccB.later h s
  | exc k fs => exact h
  | bad => exact h
/-- into a canonical reading; what is known behind it -/
theorem tE_in {ev : Q.X} {P : D → Cl → V → Hp → Prop} {P' : VK} (E : EnvOk G fm hs env [] σ H) (h : AccR G W fm hs σ H (ev env) P)
    (m : ∀ d c v H', EnvOk G fm hs env [] σ H' → Same H H' → VOk G fm hs H H' v d c → P d c v H' → P' v H') : tE G W ev σ H P' :=
  ⟨fm, hs, env, E, h.imp fun d c v H' _ s q x => m d c v H' (E.later s) s q x⟩
theorem tA_in {ev : Q.XA} {P : List D → Bool → List V → Hp → Prop} {P' : List V → Hp → Prop} (E : EnvOk G fm hs env [] σ H) (h : AccA G W fm hs σ H (ev env) P)
    (m : ∀ ds t vs H', EnvOk G fm hs env [] σ H' → Same H H' → Reps G (fun a => Cold fm hs a ∨ (t = true ∧ TR fm hs a)) H' vs ds → P ds t vs H' → P' vs H') : tA G W ev σ H P' :=
  ⟨fm, hs, env, E, h.imp fun d c v H' _ s q x => m d c v H' (E.later s) s q x⟩
theorem tT_in {ev : Q.XB} {P : Bool → Hp → Prop} {P' : Bool → Hp → Prop} (E : EnvOk G fm hs env [] σ H) (h : AccB G W fm hs σ H (ev env) P)
    (m : ∀ b H', EnvOk G fm hs env [] σ H' → Same H H' → P b H' → P' b H') : tT G W ev σ H P' :=
  ⟨fm, hs, env, E, h.imp fun d H' _ s x => m d H' (E.later s) s x⟩
end
theorem _root_.L2.PE.conv {X : Cx} {e : Expr} {t u : TE} (h : PE X e t) (m : ∀ σ H P, u σ H P → t σ H P) : PE X e u := ⟨fun pins s σ H P I q => h.run pins s σ H P I (m σ H P q)⟩
theorem _root_.L2.PT.conv {X : Cx} {e : Expr} {t u : TT} (h : PT X e t) (m : ∀ σ H P, u σ H P → t σ H P) : PT X e u := ⟨fun pins s σ H P I q => h.run pins s σ H P I (m σ H P q)⟩
theorem _root_.L2.PW.conv {X : Cx} {e : Expr} {t u : TT} (h : PW X e t) (m : ∀ σ H P, u σ H P → t σ H P) : PW X e u := ⟨fun whole pins s σ H P I q => h.run whole pins s σ H P I (m σ H P q)⟩
theorem _root_.L2.PA.conv {X : Cx} {e : List Expr} {t u : TA} (h : PA X e t) (m : ∀ σ H P, u σ H P → t σ H P) : PA X e u := ⟨fun pos pins s σ H P I q => h.run pos pins s σ H P I (m σ H P q)⟩
theorem _root_.L2.PS.conv {X : Cx} {e : Stmt} {t u : TS} (h : PS X e t) (m : ∀ D σ H, u D σ H → t D σ H) : PS X e u := ⟨fun pins s σ H D I q => h.run pins s σ H D I (m D σ H q)⟩
theorem _root_.L2.PSs.conv {X : Cx} {e : List Stmt} {t u : TS} (h : PSs X e t) (m : ∀ D σ H, u D σ H → t D σ H) : PSs X e u := ⟨fun pins s σ H D I q => h.run pins s σ H D I (m D σ H q)⟩
theorem _root_.L2.PG.conv {X : Cx} {e : Expr} {t u : TG} (h : PG X e t) (m : ∀ v σ H P, u v σ H P → t v σ H P) : PG X e u := ⟨fun pins s σ H v w P I r q => h.run pins s σ H v w P I r (m v σ H P q)⟩
theorem _root_.L2.PI.conv {X : Cx} {tg e : Expr} {t u : TI} (h : PI X tg e t) (m : ∀ σ H R, u σ H R → t σ H R) : PI X tg e u := ⟨fun pins s σ H R I q => h.run pins s σ H R I (m σ H R q)⟩
end QW

set_option Elab.async false
set_option linter.all false
set_option maxRecDepth 100000
set_option maxHeartbeats 4000000
namespace QW
open PySem PySem.Spec PyProof.Rows L2
open Q (D S R RA RB Ctl Cl Pat)
/-! ### expressions -/
section
variable {X : Cx} {W : WX} {G : Cfg}
theorem q_var (i : Nat) {x : Str} {pos : Pos} (hN : X.N[i]? = some x := by rfl) (hv : Vis X.env.scope x := by first | exact Or.inl rfl | exact Or.inr (Or.inl rfl) | exact Or.inr (Or.inr rfl))
    (hd : (x == ("__debug__" : Str)) = false := by decide) (hcd : (x == ("__classdict__" : Str)) = false := by decide) : PE X (.Name x pos) (tE G W (Q.var i)) :=
  (pv i hN hv hd hcd).conv fun σ H P ⟨fm, hs, env, E, acc⟩ => by
    show ∃ v, σ[i]? = some (some v) ∧ P v H
    have e : Q.var i env = (match env[i]? with
      | some (.cold d) => R.ok d .cold
      | some (.hot ds) => R.ok (.lst ds) .hot
      | some (.hob c ds) => R.ok (.obj c ds) .hot
      | some (.slf c ds) => R.ok (.obj c ds) .hot
      | some (.bor d) => R.ok d .taint
      | _ => R.bad) := rfl
    rw [e] at acc
    cases q : env[i]? with
    | none => rw [q] at acc; exact acc.elim
    | some s =>
      have sl := E.slot i s q
      rw [q] at acc
      cases s with
      | no => exact acc.elim
      | cold d =>
        obtain ⟨v, a, b⟩ := sl
        exact ⟨v, a, acc v H (Same.refl _) b⟩
      | hot ds =>
        obtain ⟨p, vs, a, b, n, c, d⟩ := sl
        exact ⟨_, a, acc _ H (Same.refl _) (.inl ⟨p, vs, ds, rfl, rfl, b, c, d⟩)⟩
      | hob k ds =>
        obtain ⟨p, dx, vs, a, b, n, c, d⟩ := sl
        exact ⟨_, a, acc _ H (Same.refl _) (.inr ⟨p, dx, vs, k, ds, rfl, rfl, b, c, d⟩)⟩
      | slf k ds =>
        obtain ⟨p, dx, vs, a, b, n, c, d⟩ := sl
        exact ⟨_, a, acc _ H (Same.refl _) (.inr ⟨p, dx, vs, k, ds, rfl, rfl, b, c, d⟩)⟩
      | bor d =>
        obtain ⟨v, a, b⟩ := sl
        exact ⟨v, a, acc v H (Same.refl _) (Rep.wider b fun a h => .inr (.inr h))⟩
      | exn k fs => exact acc.elim
theorem q_int {i : Int} {j pos} : PE X (.Constant (.int i) j pos) (tE G W (Q.con (.int i))) := pe_int.conv fun σ H P ⟨_, _, _, _, acc⟩ => acc _ H (Same.refl _) (.int i)
theorem q_bl {i : Bool} {j pos} : PE X (.Constant (.bool i) j pos) (tE G W (Q.con (.bl i))) := pe_bl.conv fun σ H P ⟨_, _, _, _, acc⟩ => acc _ H (Same.refl _) (.bl i)
theorem q_non {j pos} : PE X (.Constant .none j pos) (tE G W (Q.con .non)) := pe_non.conv fun σ H P ⟨_, _, _, _, acc⟩ => acc _ H (Same.refl _) .non
theorem q_str {i : Str} {j pos} : PE X (.Constant (.str i) j pos) (tE G W (Q.con (.str i))) := pe_str.conv fun σ H P ⟨_, _, _, _, acc⟩ => acc _ H (Same.refl _) (.str i)
/-- a scalar of the module's -/
def conV : D → Option V
  | .non => some .non
  | .bl b => some (.bl b)
  | .int i => some (.int i)
  | .str s => some (.str s)
  | _ => none
theorem conV_rep {d : D} {v : V} (h : conV d = some v) {A : Reg} {H : Hp} : Rep G A H v d := by
  cases d <;> simp [conV] at h <;> subst h <;> constructor
theorem q_glob {x : Str} {d : D} {v : V} {u : Value} {pos : Pos} (hv : conV d = some v) (hm : X.mg x = some u) (r : RelV v u) (hg : Gl X x := by rfl) (hd : (x == ("__debug__" : Str)) = false := by decide) : PE X (.Name x pos) (tE G W (Q.con d)) :=
  (pe_glob hg hm r hd).conv fun σ H P ⟨_, _, _, _, acc⟩ => acc _ H (Same.refl _) (conV_rep hv)
/-- an operation of the machine's on values is one on data, its answer a scalar -/
def OpD (G : Cfg) (r : R2) (f : D → D → Option D) : Prop :=
  ∀ x y z, f x y = some z → z.scalar = true ∧ ∀ (A : Reg) (H : Hp) vx vy, Rep G A H vx x → Rep G A H vy y → ∃ vz, Rep G A H vz z ∧ ∀ P : VK, P vz H → r vx vy H P
def UnD (G : Cfg) (r : V → Hp → VK → Prop) (f : D → Option D) : Prop :=
  ∀ x z, f x = some z → z.scalar = true ∧ ∀ (A : Reg) (H : Hp) vx, Rep G A H vx x → ∃ vz, Rep G A H vz z ∧ ∀ P : VK, P vz H → r vx H P
variable {a b c : Expr} {ea eb ec : Q.X} {pos : Pos}
theorem ofO_some {o : Option D} {fm : Fm} {hs : List Addr} {σ : L2.St} {H : Hp} {P : D → Cl → V → Hp → Prop} (h : AccR G W fm hs σ H (Q.ofO o) P) : ∃ z, o = some z ∧ AccR G W fm hs σ H (.ok z .cold) P := by
  cases o with
  | none => exact h.elim
  | some z => exact ⟨z, rfl, h⟩
theorem op2_of {r : R2} {f : D → D → Option D} (hf : OpD G r f) {σ : L2.St} {H : Hp} {P : VK} (h : tE G W (Q.op2 f ea eb) σ H P) : tOp r (tE G W ea) (tE G W eb) σ H P := by
  obtain ⟨fm, hs, env, E, acc⟩ := h
  refine tE_in E (acc_bind acc) fun d c v H1 E1 s1 o1 acc1 => tE_in E1 (acc_bind acc1) fun d2 c2 v2 H2 E2 s2 o2 acc2 => ?_
  obtain ⟨z, q, acc3⟩ := ofO_some acc2
  obtain ⟨sz, k⟩ := hf d d2 z q
  obtain ⟨vz, rz, k⟩ := k _ H2 v v2 ((o1.anyR E).later s2) (o2.anyR E1)
  exact k _ (acc3 vz H2 (Same.refl _) (rz.scalar sz))
theorem q_bin {op : Operator} {r : R2} {f : D → D → Option D} (ho : OpR X (binaryOp op) r) (hf : OpD G r f) (ha : PE X a (tE G W ea)) (hb : PE X b (tE G W eb)) : PE X (.BinOp a op b pos) (tE G W (Q.op2 f ea eb)) :=
  (pe_op ho ha hb).conv fun _ _ _ h => op2_of hf h
theorem q_cmp {op : CmpOp} {r : R2} {f : D → D → Option D} (ho : OpR X (compareOp op) r) (hf : OpD G r f) (ha : PE X a (tE G W ea)) (hb : PE X b (tE G W eb)) (hm : behindInMarks op b = false := by first | exact nomark _ | rfl) :
    PE X (.Compare a [op] [b] pos) (tE G W (Q.op2 f ea eb)) := (pe_cmpR ho ha hb hm).conv fun _ _ _ h => op2_of hf h
theorem q_un {op : UnaryOp} {r : V → Hp → VK → Prop} {f : D → Option D} (ho : UnR X (unaryOp op) r) (hf : UnD G r f) (ha : PE X a (tE G W ea)) : PE X (.UnaryOp op a pos) (tE G W (Q.op1 f ea)) :=
  (pe_un ho ha).conv fun σ H P ⟨fm, hs, env, E, acc⟩ => tE_in E (acc_bind acc) fun d c v H1 E1 s1 o1 acc1 => by
    obtain ⟨z, q, acc3⟩ := ofO_some acc1
    obtain ⟨sz, k⟩ := hf d z q
    obtain ⟨vz, rz, k⟩ := k _ H1 v (o1.anyR E)
    exact k _ (acc3 vz H1 (Same.refl _) (rz.scalar sz))
/-- x is None, is not None -/
theorem isN_of {σ : L2.St} {H : Hp} {P : VK} (h : tE G W (Q.op1 Q.opIsN ea) σ H P) : tIsN (tE G W ea) σ H P := by
  obtain ⟨fm, hs, env, E, acc⟩ := h
  refine tE_in E (acc_bind acc) fun d c v H1 E1 s1 o1 acc1 => ?_
  have r := o1.anyR E
  obtain ⟨z, q, acc3⟩ := ofO_some acc1
  cases r <;> cases q <;> exact acc3 _ H1 (Same.refl _) (Rep.bl _)
theorem q_isN {j pos'} (ha : PE X a (tE G W ea)) : PE X (.Compare a [.Is] [.Constant .none j pos'] pos) (tE G W (Q.op1 Q.opIsN ea)) := (pe_cmp (pc_isN ha)).conv fun _ _ _ h => isN_of h
theorem notN_of {σ : L2.St} {H : Hp} {P : VK} (h : tE G W (Q.op1 Q.opNotN ea) σ H P) : tNotN (tE G W ea) σ H P := by
  obtain ⟨fm, hs, env, E, acc⟩ := h
  refine tE_in E (acc_bind acc) fun d c v H1 E1 s1 o1 acc1 => ?_
  have r := o1.anyR E
  obtain ⟨z, q, acc3⟩ := ofO_some acc1
  cases r <;> cases q <;> exact acc3 _ H1 (Same.refl _) (Rep.bl _)
theorem q_notN {j pos'} (ha : PE X a (tE G W ea)) : PE X (.Compare a [.IsNot] [.Constant .none j pos'] pos) (tE G W (Q.op1 Q.opNotN ea)) := (pe_cmp (pc_notN ha)).conv fun _ _ _ h => notN_of h
theorem chain_of {r r' : R2} {f g : D → D → Option D} (hf : OpD G r f) (hg : OpD G r' g) {σ : L2.St} {H : Hp} {P : VK} (h : tE G W (Q.chain f g ea eb ec) σ H P) : tChain r r' (tE G W ea) (tE G W eb) (tE G W ec) σ H P := by
    obtain ⟨fm, hs, env, E, acc⟩ := h
    refine tE_in E (acc_bind acc) fun d c v H1 E1 s1 o1 acc1 => tE_in E1 (acc_bind acc1) fun d2 c2 v2 H2 E2 s2 o2 acc2 => ?_
    cases q : f d d2 with
    | none => rw [q] at acc2; exact acc2.elim
    | some z =>
      rw [q] at acc2
      obtain ⟨sz, k⟩ := hf d d2 z q
      obtain ⟨vz, rz, k⟩ := k _ H2 v v2 ((o1.anyR E).later s2) (o2.anyR E1)
      cases z with
      | bl t =>
        cases rz
        refine k _ ⟨t, rfl, ?_⟩
        cases t with
        | false => exact acc2 _ H2 (Same.refl _) (Rep.bl _)
        | true =>
          refine tE_in E2 (acc_bind acc2) fun d3 c3 v3 H3 E3 s3 o3 acc3 => ?_
          obtain ⟨z, q, acc4⟩ := ofO_some acc3
          obtain ⟨sz, k⟩ := hg d2 d3 z q
          obtain ⟨vz, rz, k⟩ := k _ H3 v2 v3 ((o2.anyR E1).later s3) (o3.anyR E2)
          exact k _ (acc4 vz H3 (Same.refl _) (rz.scalar sz))
      | _ => exact acc2.elim
theorem q_chain {op op' : CmpOp} {r r' : R2} {f g : D → D → Option D} (ho : OpR X (compareOp op) r) (hf : OpD G r f) (ho' : OpR X (compareOp op') r') (hg : OpD G r' g) (ha : PE X a (tE G W ea)) (hb : PE X b (tE G W eb)) (hc : PE X c (tE G W ec))
    (hm : lastMarks [op, op'] [b, c] = false := by with_unfolding_all rfl) : PE X (.Compare a [op, op'] [b, c] pos) (tE G W (Q.chain f g ea eb ec)) :=
  (pe_chain ho ho' ha hb hc hm).conv fun _ _ _ h => chain_of hf hg h
/-! ### tests -/
variable {ta tb tc : Q.XB}
theorem q_tst (h : PE X a (tE G W ea)) (he : ∀ whole, isTrue a X.env whole = (do let v ← whole; standAt a.pos; holding [v] (truthy v)) := by intro _; rfl) : PT X a (tT G W (Q.tst ea)) :=
  PT.conv (pt_val h he) fun σ H P ⟨fm, hs, env, E, acc⟩ => tE_in E (acc_bindB acc) fun d c v H1 E1 s1 o1 acc1 => by
    cases d with
    | bl b =>
      cases (o1.anyR E)
      exact ⟨b, rfl, acc1 H1 (Same.refl _)⟩
    | _ => exact acc1.elim
theorem tst_tE {σ : L2.St} {H : Hp} {P : Bool → Hp → Prop} (h : tT G W (Q.tst ea) σ H P) : tE G W ea σ H fun x H' => ∃ k, x = .bl k ∧ P k H' := by
  obtain ⟨fm, hs, env, E, acc⟩ := h
  refine tE_in E (acc_bindB acc) fun d c v H1 E1 s1 o1 acc1 => ?_
  cases d with
  | bl b =>
    cases (o1.anyR E)
    exact ⟨b, rfl, acc1 H1 (Same.refl _)⟩
  | _ => exact acc1.elim
theorem q_tcmp {op : CmpOp} {r : R2} {f : D → D → Option D} (ho : OpR X (compareOp op) r) (hf : OpD G r f) (ha : PE X a (tE G W ea)) (hb : PE X b (tE G W eb)) (hm : behindInMarks op b = false := by first | exact nomark _ | rfl) :
    PT X (.Compare a [op] [b] pos) (tT G W (Q.tst (Q.op2 f ea eb))) := PT.conv (pt_cmpR ho ha hb hm) fun _ _ _ h => op2_of hf (tst_tE h)
theorem q_tchain {op op' : CmpOp} {r r' : R2} {f g : D → D → Option D} (ho : OpR X (compareOp op) r) (hf : OpD G r f) (ho' : OpR X (compareOp op') r') (hg : OpD G r' g) (ha : PE X a (tE G W ea)) (hb : PE X b (tE G W eb)) (hc : PE X c (tE G W ec))
    (hm : lastMarks [op, op'] [b, c] = false := by with_unfolding_all rfl) : PT X (.Compare a [op, op'] [b, c] pos) (tT G W (Q.tst (Q.chain f g ea eb ec))) :=
  PT.conv (pt_chain ho ho' ha hb hc hm) fun _ _ _ h => chain_of hf hg (tst_tE h)
theorem q_tisN {j pos'} (ha : PE X a (tE G W ea)) : PT X (.Compare a [.Is] [.Constant .none j pos'] pos) (tT G W (Q.tst (Q.op1 Q.opIsN ea))) := PT.conv (pt_cmp (pc_isN ha)) fun _ _ _ h => isN_of (tst_tE h)
theorem q_tnotN {j pos'} (ha : PE X a (tE G W ea)) : PT X (.Compare a [.IsNot] [.Constant .none j pos'] pos) (tT G W (Q.tst (Q.op1 Q.opNotN ea))) := PT.conv (pt_cmp (pc_notN ha)) fun _ _ _ h => notN_of (tst_tE h)
theorem q_tnot (h : PT X a (tT G W ta)) : PT X (.UnaryOp .Not a pos) (tT G W (Q.tnot ta)) :=
  PT.conv (pt_not h) fun σ H P ⟨fm, hs, env, E, acc⟩ => tT_in E (accB_bindB acc) fun k H1 E1 s1 acc1 => acc1 H1 (Same.refl _)
theorem q_tand1 (h : PT X a (tT G W ta)) : PW X (.BoolOp .And [a] pos) (tT G W ta) := pw_and1 h
theorem q_tor1 (h : PT X a (tT G W ta)) : PW X (.BoolOp .Or [a] pos) (tT G W ta) := pw_or1 h
variable {rest : List Expr}
theorem q_tand (h : PT X a (tT G W ta)) (hb : PW X (.BoolOp .And (b :: rest) pos) (tT G W tb)) : PW X (.BoolOp .And (a :: b :: rest) pos) (tT G W (Q.tand ta tb)) :=
  PW.conv (pw_and h hb) fun σ H P ⟨fm, hs, env, E, acc⟩ => tT_in E (accB_bindB acc) fun k H1 E1 s1 acc1 => by
    cases k with
    | false => exact acc1 H1 (Same.refl _)
    | true => exact ⟨fm, hs, env, E1, acc1⟩
theorem q_tor (h : PT X a (tT G W ta)) (hb : PW X (.BoolOp .Or (b :: rest) pos) (tT G W tb)) : PW X (.BoolOp .Or (a :: b :: rest) pos) (tT G W (Q.tor ta tb)) :=
  PW.conv (pw_or h hb) fun σ H P ⟨fm, hs, env, E, acc⟩ => tT_in E (accB_bindB acc) fun k H1 E1 s1 acc1 => by
    cases k with
    | true => exact acc1 H1 (Same.refl _)
    | false => exact ⟨fm, hs, env, E1, acc1⟩
theorem q_and1 {op : BoolOp} (h : PE X a (tE G W ea)) : PE X (.BoolOp op [a] pos) (tE G W ea) := pe_one h
theorem q_and (h : PE X a (tE G W ea)) (hb : PE X (.BoolOp .And (b :: rest) pos) (tE G W eb)) : PE X (.BoolOp .And (a :: b :: rest) pos) (tE G W (Q.vand ea eb)) :=
  PE.conv (pe_and h hb) fun σ H P ⟨fm, hs, env, E, acc⟩ => tE_in E (acc_bind acc) fun d c v H1 E1 s1 o1 acc1 => by
    cases d with
    | bl k =>
      cases (o1.anyR E)
      refine ⟨k, rfl, ?_⟩
      cases k with
      | false => exact acc1 _ H1 (Same.refl _) (Rep.bl _)
      | true => exact ⟨fm, hs, env, E1, acc1⟩
    | _ => exact acc1.elim
theorem q_or (h : PE X a (tE G W ea)) (hb : PE X (.BoolOp .Or (b :: rest) pos) (tE G W eb)) : PE X (.BoolOp .Or (a :: b :: rest) pos) (tE G W (Q.vor ea eb)) :=
  PE.conv (pe_or h hb) fun σ H P ⟨fm, hs, env, E, acc⟩ => tE_in E (acc_bind acc) fun d c v H1 E1 s1 o1 acc1 => by
    cases d with
    | bl k =>
      cases (o1.anyR E)
      refine ⟨k, rfl, ?_⟩
      cases k with
      | true => exact acc1 _ H1 (Same.refl _) (Rep.bl _)
      | false => exact ⟨fm, hs, env, E1, acc1⟩
    | _ => exact acc1.elim
theorem q_not (h : PE X a (tE G W ea)) : PE X (.UnaryOp .Not a pos) (tE G W (Q.vnot ea)) :=
  PE.conv (pe_not h) fun σ H P ⟨fm, hs, env, E, acc⟩ => tE_in E (acc_bind acc) fun d c v H1 E1 s1 o1 acc1 => by
    cases d with
    | bl k =>
      cases (o1.anyR E)
      exact ⟨k, rfl, acc1 _ H1 (Same.refl _) (Rep.bl _)⟩
    | _ => exact acc1.elim
theorem q_cond (ht : PT X c (tT G W tc)) (ha : PE X a (tE G W ea)) (hb : PE X b (tE G W eb)) : PE X (.IfExp c a b pos) (tE G W (Q.cond tc ea eb)) :=
  PE.conv (pe_ifExp ht ha hb) fun σ H P ⟨fm, hs, env, E, acc⟩ => tT_in E (accB_bind acc) fun k H1 E1 s1 acc1 => by
    cases k with
    | true => exact ⟨fm, hs, env, E1, acc1⟩
    | false => exact ⟨fm, hs, env, E1, acc1⟩
/-! ### argument lists, displays -/
variable {es : List Expr} {eas : Q.XA}
theorem q_anil : PA X [] (tA G W Q.anil) := PA.conv pa_nil fun σ H P ⟨fm, hs, env, E, acc⟩ => acc [] H (Same.refl _) Reps.nil
theorem q_acons (ha : PE X a (tE G W ea)) (hr : PA X es (tA G W eas)) (hst : starEach (a :: es) X.env = (false, eval a X.env) :: starEach es X.env := by rfl) : PA X (a :: es) (tA G W (Q.acons ea eas)) :=
  PA.conv (pa_cons ha hr hst) fun σ H P ⟨fm, hs, env, E, acc⟩ => tE_in E (acc_bindA acc) fun d c v H1 E1 s1 o1 acc1 => by
    refine ⟨fm, hs, env, E1, ?_⟩
    show AccA G W fm hs σ H1 (eas env) fun _ _ xs H2 => P (v :: xs) H2
    cases q : eas env with
    | exc k fs => rw [q] at acc1; exact acc1
    | bad => rw [q] at acc1; exact acc1
    | ok ds t =>
      rw [q] at acc1
      intro vs H2 s2 r2
      refine acc1 (v :: vs) H2 s2 (Reps.cons ?_ (r2.mono (Same.refl _) fun a h => ?_))
      · cases hd : Q.dirty c d with
        | false => exact ((o1.clean E hd).later s2).wider fun a h => .inl h
        | true => exact ((o1.anyR E).later s2).wider fun a h => .inr ⟨by simp, h⟩
      · rcases h with h | ⟨ht, h⟩
        · exact .inl h
        · exact .inr ⟨by simp [ht], h⟩
theorem args_cold {ds : List D} {t : Bool} {vs : List V} {fm : Fm} {hs : List Addr} {H : Hp} (r : Reps G (fun a => Cold fm hs a ∨ (t = true ∧ TR fm hs a)) H vs ds) (h : t = false) : Reps G (Cold fm hs) H vs ds :=
  r.mono (Same.refl _) fun a x => x.elim id fun y => by rw [h] at y; cases y.1
theorem args_any {ds : List D} {t : Bool} {vs : List V} {fm : Fm} {hs : List Addr} {H : Hp} (r : Reps G (fun a => Cold fm hs a ∨ (t = true ∧ TR fm hs a)) H vs ds) : Reps G (TR fm hs) H vs ds :=
  r.mono (Same.refl _) fun a x => x.elim (fun y => .inl y.1) fun y => y.2
theorem most_line {n : Nat} (h : n ≤ Q.most) : n ≤ sizeLine := Nat.le_trans h (by decide)
theorem most_lt {n : Nat} (h : n < Q.most) : n < sizeLine := Nat.lt_of_lt_of_le h (by decide)
theorem same_new {H : Hp} {p : Addr} {o : HO} (h : H p = none) : Same H (upd H p o) := fun b x e => by
  rw [upd_ne (ne_of_none e h)]
  exact e
theorem q_tup {x1} (h : PA X es (tA G W eas)) : PE X (.Tuple es x1 pos) (tE G W (Q.tupx eas)) :=
  PE.conv (pe_tup h) fun σ H P ⟨fm, hs, env, E, acc⟩ => tA_in E (accA_bind acc) fun ds t vs H1 E1 s1 r1 acc1 => by
    by_cases hl : ds.length ≤ Q.most
    · simp only [if_pos hl] at acc1
      refine ⟨most_line (by rw [r1.1]; exact hl), fun p hp => ?_⟩
      refine acc1 _ _ (same_new hp) ?_
      cases t with
      | false => exact Rep.tup (E1.newCold hp) upd_same r1.1 ((args_cold r1 rfl).later (same_new hp)).2
      | true => exact Rep.tup (.inl (E1.newCold hp).1) upd_same r1.1 ((args_any r1).later (same_new hp)).2
    · simp only [if_neg hl] at acc1
      exact acc1.elim
theorem reps_fresh {fm : Fm} {H : Hp} {hs : List Addr} {vs : List V} {ds : List D} {p : Addr} {o : HO} (r : Reps G (Cold fm hs) H vs ds) (hp : H p = none) : Reps G (fun a => Cold fm hs a ∧ a ≠ p) (L2.upd H p o) vs ds :=
  r.dom.mono (same_new hp) fun a h => ⟨h.1, fun e => h.2 (e ▸ hp)⟩
theorem q_lst (h : PA X es (tA G W eas)) : PE X (.List es pos) (tE G W (Q.lstx eas)) :=
  PE.conv (pe_lst h) fun σ H P ⟨fm, hs, env, E, acc⟩ => tA_in E (accA_bind acc) fun ds t vs H1 E1 s1 r1 acc1 => by
    by_cases hl : ds.length ≤ Q.most
    · simp only [if_pos hl] at acc1
      refine ⟨most_line (by rw [r1.1]; exact hl), fun p hp => ?_⟩
      refine acc1 _ _ (same_new hp) ?_
      cases t with
      | false => exact .inl ⟨p, vs, ds, rfl, rfl, hp, upd_same, reps_fresh (args_cold r1 rfl) hp⟩
      | true => exact Rep.lst (.inl (E1.newCold hp).1) upd_same r1.1 ((args_any r1).later (same_new hp)).2
    · simp only [if_neg hl] at acc1
      exact acc1.elim
end
/-! ### the operators -/
section
variable {G : Cfg}
theorem od_add : OpD G (rI0 fun i j => .int (i + j)) Q.opAdd := fun x y z h => by
  cases x <;> cases y <;> simp at h
  subst h
  refine ⟨rfl, fun A H vx vy rx ry => ?_⟩
  cases rx; cases ry
  exact ⟨_, .int _, fun P p => ⟨_, _, rfl, rfl, p⟩⟩
theorem od_sub : OpD G (rI0 fun i j => .int (i - j)) Q.opSub := fun x y z h => by
  cases x <;> cases y <;> simp at h
  subst h
  refine ⟨rfl, fun A H vx vy rx ry => ?_⟩
  cases rx; cases ry
  exact ⟨_, .int _, fun P p => ⟨_, _, rfl, rfl, p⟩⟩
theorem big_lt {i : Int} (h : -Q.big < i) (h' : i < Q.big) : i.natAbs < 2 ^ 128 := by
  have e : Q.big = 340282366920938463463374607431768211456 := rfl
  rw [e] at h h'
  omega
theorem od_mul : OpD G (rI CMulW fun i j => .int (i * j)) Q.opMul := fun x y z h => by
  cases x <;> cases y <;> simp at h
  obtain ⟨c, h⟩ := h
  subst h
  refine ⟨rfl, fun A H vx vy rx ry => ?_⟩
  cases rx; cases ry
  exact ⟨_, .int _, fun P p => ⟨_, _, rfl, rfl, wide_mul (big_lt c.1.1 c.1.2) (big_lt c.2.1 c.2.2) (by decide) (by decide) (by decide), p⟩⟩
theorem od_div : OpD G (rI CDivW fun i j => .int (i / j)) Q.opDiv := fun x y z h => by
  cases x <;> cases y <;> simp at h
  obtain ⟨c, h⟩ := h
  subst h
  refine ⟨rfl, fun A H vx vy rx ry => ?_⟩
  cases rx; cases ry
  refine ⟨_, .int _, fun P p => ⟨_, _, rfl, rfl, wide_div c.1 (big_lt (by have : Q.big = 340282366920938463463374607431768211456 := rfl; omega) c.2) (by decide) (by decide), p⟩⟩
theorem od_mod : OpD G (rI (fun _ j => 0 < j) fun i j => .int (i % j)) Q.opMod := fun x y z h => by
  cases x <;> cases y <;> simp at h
  obtain ⟨c, h⟩ := h
  subst h
  refine ⟨rfl, fun A H vx vy rx ry => ?_⟩
  cases rx; cases ry
  exact ⟨_, .int _, fun P p => ⟨_, _, rfl, rfl, c, p⟩⟩
theorem od_pow : OpD G (rI CPow fun i j => .int (i ^ j.toNat)) Q.opPow := fun x y z h => by
  cases x <;> cases y <;> simp at h
  obtain ⟨c, h⟩ := h
  subst h
  refine ⟨rfl, fun A H vx vy rx ry => ?_⟩
  cases rx; cases ry
  exact ⟨_, .int _, fun P p => ⟨_, _, rfl, rfl, ⟨by omega, by omega, by omega⟩, p⟩⟩
theorem ud_neg : UnD G (rU fun i => .int (-i)) Q.opNeg := fun x z h => by
  cases x <;> simp at h
  subst h
  refine ⟨rfl, fun A H vx rx => ?_⟩
  cases rx
  exact ⟨_, .int _, fun P p => ⟨_, rfl, p⟩⟩
theorem od_lt : OpD G (rI0 fun i j => .bl (decide (i < j))) Q.opLt := fun x y z h => by
  cases x <;> cases y <;> simp at h
  subst h
  refine ⟨rfl, fun A H vx vy rx ry => ?_⟩
  cases rx; cases ry
  exact ⟨_, .bl _, fun P p => ⟨_, _, rfl, rfl, p⟩⟩
theorem od_le : OpD G (rI0 fun i j => .bl (decide (i ≤ j))) Q.opLe := fun x y z h => by
  cases x <;> cases y <;> simp at h
  subst h
  refine ⟨rfl, fun A H vx vy rx ry => ?_⟩
  cases rx; cases ry
  exact ⟨_, .bl _, fun P p => ⟨_, _, rfl, rfl, p⟩⟩
theorem od_gt : OpD G (rI0 fun i j => .bl (decide (j < i))) Q.opGt := fun x y z h => by
  cases x <;> cases y <;> simp at h
  subst h
  refine ⟨rfl, fun A H vx vy rx ry => ?_⟩
  cases rx; cases ry
  exact ⟨_, .bl _, fun P p => ⟨_, _, rfl, rfl, p⟩⟩
theorem od_ge : OpD G (rI0 fun i j => .bl (decide (j ≤ i))) Q.opGe := fun x y z h => by
  cases x <;> cases y <;> simp at h
  subst h
  refine ⟨rfl, fun A H vx vy rx ry => ?_⟩
  cases rx; cases ry
  exact ⟨_, .bl _, fun P p => ⟨_, _, rfl, rfl, p⟩⟩
theorem eqS_scal {A : Reg} {H : Hp} {x y : D} {vx vy : V} {b : Bool} (rx : Rep G A H vx x) (ry : Rep G A H vy y) (h : Q.eqS x y = some b) : scal vx vy = true ∧ decide (vx = vy) = b := by
  cases rx <;> cases ry <;> simp_all [Q.eqS, scal]
theorem od_eq : OpD G rEq Q.opEq := fun x y z h => by
  simp only [Q.opEq, Option.map_eq_some_iff] at h
  obtain ⟨b, h, rfl⟩ := h
  refine ⟨rfl, fun A H vx vy rx ry => ?_⟩
  obtain ⟨h1, h2⟩ := eqS_scal rx ry h
  exact ⟨.bl b, .bl b, fun P p => ⟨h1, by rw [h2]; exact p⟩⟩
theorem od_ne : OpD G rNe Q.opNe := fun x y z h => by
  simp only [Q.opNe, Option.map_eq_some_iff] at h
  obtain ⟨b, h, rfl⟩ := h
  refine ⟨rfl, fun A H vx vy rx ry => ?_⟩
  obtain ⟨h1, h2⟩ := eqS_scal rx ry h
  exact ⟨.bl (!b), .bl _, fun P p => ⟨h1, by rw [h2]; exact p⟩⟩
theorem flat_of {A : Reg} {H : Hp} {x : D} {v : V} (r : Rep G A H v x) (s : x.scalar = true) : flatV v = true := by
  cases r <;> simp_all [Q.D.scalar, flatV]
theorem flats_of {A : Reg} {H : Hp} : ∀ {ds : List D} {vs : List V}, Reps G A H vs ds → ds.all Q.D.scalar = true → vs.all flatV = true
  | [], vs, r, _ => by rw [r.nil_iff.mpr rfl]; rfl
  | d :: ds, [], r, _ => by have := r.1; simp at this
  | d :: ds, v :: vs, r, s => by
    rw [List.all_cons, Bool.and_eq_true] at s ⊢
    exact ⟨flat_of r.head s.1, flats_of r.tail s.2⟩
theorem eqV_of {A : Reg} {H : Hp} {x y : D} {u v : V} (ry : Rep G A H v y) (rx : Rep G A H u x) (sy : y.scalar = true) (sx : x.scalar = true) : eqV v u = Q.D.eqv y x := by
  cases ry <;> cases rx <;> simp_all [Q.D.scalar, eqV, Q.D.eqv]
  all_goals rfl
theorem inV_of {A : Reg} {H : Hp} {x : D} {u : V} (rx : Rep G A H u x) (sx : x.scalar = true) : ∀ {ds : List D} {vs : List V}, Reps G A H vs ds → ds.all Q.D.scalar = true → inV u vs = ds.any fun y => Q.D.eqv y x
  | [], vs, r, _ => by rw [r.nil_iff.mpr rfl]; rfl
  | d :: ds, [], r, _ => by have := r.1; simp at this
  | d :: ds, v :: vs, r, s => by
    rw [List.all_cons, Bool.and_eq_true] at s
    have ih := inV_of rx sx r.tail s.2
    unfold inV at ih ⊢
    rw [List.any_cons, List.any_cons, ih, eqV_of r.head rx s.1 sx]
theorem mem_of {x : D} {ds : List D} {b : Bool} (h : Q.memP x ds = some b) : x.scalar = true ∧ ds.all Q.D.scalar = true ∧ (ds.any fun y => Q.D.eqv y x) = b := by
  unfold Q.memP at h
  split at h
  · rename_i q
    rw [Bool.and_eq_true] at q
    exact ⟨q.1, q.2, Option.some.inj h⟩
  · cases h
theorem od_in : OpD G (rIn G.K false) Q.opIn := fun x y z h => by
  cases y <;> simp only [Q.opIn, Option.map_eq_some_iff, reduceCtorEq] at h
  all_goals
    obtain ⟨b, h, rfl⟩ := h
    obtain ⟨h1, h2, h3⟩ := mem_of h
    refine ⟨rfl, fun A H vx vy rx ry => ?_⟩
  · obtain ⟨p, rfl⟩ := ry.tup_inv
    obtain ⟨vs, e, hs, r⟩ := ry.tupSq
    exact ⟨.bl b, .bl b, fun P q => ⟨p, vs, rfl, .inr hs, flat_of rx h1, flats_of r h2, by rw [inV_of rx h1 r h2, h3]; exact q⟩⟩
  · obtain ⟨p, rfl⟩ := ry.lst_inv
    obtain ⟨vs, e, hs, r⟩ := ry.lstSq
    exact ⟨.bl b, .bl b, fun P q => ⟨p, vs, rfl, .inl hs, flat_of rx h1, flats_of r h2, by rw [inV_of rx h1 r h2, h3]; exact q⟩⟩
theorem od_notIn : OpD G (rIn G.K true) Q.opNotIn := fun x y z h => by
  cases y <;> simp only [Q.opNotIn, Option.map_eq_some_iff, reduceCtorEq] at h
  all_goals
    obtain ⟨b, h, rfl⟩ := h
    obtain ⟨h1, h2, h3⟩ := mem_of h
    refine ⟨rfl, fun A H vx vy rx ry => ?_⟩
  · obtain ⟨p, rfl⟩ := ry.tup_inv
    obtain ⟨vs, e, hs, r⟩ := ry.tupSq
    exact ⟨.bl (!b), .bl _, fun P q => ⟨p, vs, rfl, .inr hs, flat_of rx h1, flats_of r h2, by rw [inV_of rx h1 r h2, h3]; exact q⟩⟩
  · obtain ⟨p, rfl⟩ := ry.lst_inv
    obtain ⟨vs, e, hs, r⟩ := ry.lstSq
    exact ⟨.bl (!b), .bl _, fun P q => ⟨p, vs, rfl, .inl hs, flat_of rx h1, flats_of r h2, by rw [inV_of rx h1 r h2, h3]; exact q⟩⟩
/-! deep == -/
mutual
def toPy : D → PyData
  | .non => .none
  | .bl b => .bool b
  | .int i => .int i
  | .str s => .str s
  | .tup xs => .tuple (toPys xs)
  | .lst xs => .list (toPys xs)
  | .frz _ => .none
  | .obj _ _ => .none
def toPys : List D → List PyData
  | [] => []
  | x :: xs => toPy x :: toPys xs
end
mutual
theorem dp_of {A : Reg} {H : Hp} : ∀ {d : D} {v : V}, Rep G A H v d → d.plain = true → Dp G.K H v (toPy d)
  | .non, v, r, _ => by cases r; exact .non
  | .bl b, v, r, _ => by cases r; exact .bl b
  | .int b, v, r, _ => by cases r; exact .int b
  | .str b, v, r, _ => by cases r; exact .str b
  | .tup xs, v, r, p => by
    obtain ⟨a, rfl⟩ := r.tup_inv
    obtain ⟨vs, _, hs, r⟩ := r.tupSq
    rw [Q.D.plain] at p
    exact .tup hs (dps_of r p)
  | .lst xs, v, r, p => by
    obtain ⟨a, rfl⟩ := r.lst_inv
    obtain ⟨vs, _, hs, r⟩ := r.lstSq
    rw [Q.D.plain] at p
    exact .lst hs (dps_of r p)
  | .frz _, v, r, p => by simp [Q.D.plain] at p
  | .obj _ _, v, r, p => by simp [Q.D.plain] at p
theorem dps_of {A : Reg} {H : Hp} : ∀ {ds : List D} {vs : List V}, Reps G A H vs ds → Q.D.plains ds = true → DpAll G.K H vs (toPys ds)
  | [], vs, r, _ => by rw [r.nil_iff.mpr rfl]; exact .nil
  | d :: ds, [], r, _ => by have := r.1; simp at this
  | d :: ds, v :: vs, r, p => by
    rw [Q.D.plains, Bool.and_eq_true] at p
    exact .cons (dp_of r.head p.1) (dps_of r.tail p.2)
end
mutual
theorem lay_of : ∀ {d : D}, d.plain = true → (toPy d).canLay0 = true
  | .non, _ => by rw [toPy, PyData.canLay0]
  | .bl b, _ => by rw [toPy, PyData.canLay0]
  | .int b, _ => by rw [toPy, PyData.canLay0]
  | .str b, h => by
    rw [toPy, PyData.canLay0]
    rw [Q.D.plain] at h
    exact h
  | .tup xs, h => by rw [toPy, PyData.canLay0]; rw [Q.D.plain] at h; exact lays_of h
  | .lst xs, h => by rw [toPy, PyData.canLay0]; rw [Q.D.plain] at h; exact lays_of h
  | .frz _, p => by simp [Q.D.plain] at p
  | .obj _ _, p => by simp [Q.D.plain] at p
theorem lays_of : ∀ {ds : List D}, Q.D.plains ds = true → PyData.canLayAll0 (toPys ds) = true
  | [], _ => by rw [toPys, PyData.canLayAll0]
  | d :: ds, p => by
    rw [Q.D.plains, Bool.and_eq_true] at p
    rw [toPys, PyData.canLayAll0, lay_of p.1, lays_of p.2]
    rfl
end
mutual
theorem depth_of : ∀ {d : D}, (toPy d).depth = d.depth
  | .non => by rw [toPy, PyData.depth, Q.D.depth] <;> simp
  | .bl b => by rw [toPy, PyData.depth, Q.D.depth] <;> simp
  | .int b => by rw [toPy, PyData.depth, Q.D.depth] <;> simp
  | .str b => by rw [toPy, PyData.depth, Q.D.depth] <;> simp
  | .tup xs => by rw [toPy, PyData.depth, Q.D.depth, depths_of]
  | .lst xs => by rw [toPy, PyData.depth, Q.D.depth, depths_of]
  | .frz _ => by rw [toPy, PyData.depth, Q.D.depth] <;> simp
  | .obj _ _ => by rw [toPy, PyData.depth, Q.D.depth] <;> simp
theorem depths_of : ∀ {ds : List D}, PyData.depthAll (toPys ds) = Q.D.depths ds
  | [] => by rw [toPys, PyData.depthAll, Q.D.depths]
  | d :: ds => by rw [toPys, PyData.depthAll, Q.D.depths, depth_of, depths_of]
end
mutual
theorem eqv_of : ∀ {d e : D}, d.plain = true → e.plain = true → PyData.eqv (toPy d) (toPy e) = Q.D.eqv d e
  | .tup xs, e, hd, he => by
    cases e with
    | tup ys =>
      rw [Q.D.plain] at hd he
      rw [toPy, toPy, PyData.eqv, Q.D.eqv, eqvs_of hd he]
    | frz _ => simp [Q.D.plain] at he
    | obj _ _ => simp [Q.D.plain] at he
    | _ => simp [toPy, PyData.eqv, Q.D.eqv]
  | .lst xs, e, hd, he => by
    cases e with
    | lst ys =>
      rw [Q.D.plain] at hd he
      rw [toPy, toPy, PyData.eqv, Q.D.eqv, eqvs_of hd he]
    | frz _ => simp [Q.D.plain] at he
    | obj _ _ => simp [Q.D.plain] at he
    | _ => simp [toPy, PyData.eqv, Q.D.eqv]
  | .non, e, hd, he => by cases e <;> simp [toPy, PyData.eqv, Q.D.eqv, Q.D.plain] at he ⊢
  | .bl _, e, hd, he => by cases e <;> simp [toPy, PyData.eqv, Q.D.eqv, Q.D.plain] at he ⊢
  | .int _, e, hd, he => by cases e <;> simp [toPy, PyData.eqv, Q.D.eqv, Q.D.plain] at he ⊢
  | .str _, e, hd, he => by
    cases e <;> simp [toPy, PyData.eqv, Q.D.eqv, Q.D.plain] at he ⊢
    rfl
  | .frz _, e, hd, he => by simp [Q.D.plain] at hd
  | .obj _ _, e, hd, he => by simp [Q.D.plain] at hd
theorem eqvs_of : ∀ {ds es : List D}, Q.D.plains ds = true → Q.D.plains es = true → PyData.eqvAll (toPys ds) (toPys es) = Q.D.eqvs ds es
  | [], es, _, _ => by cases es <;> simp [toPys, PyData.eqvAll, Q.D.eqvs]
  | d :: ds, es, p, q => by
    cases es with
    | nil => simp [toPys, PyData.eqvAll, Q.D.eqvs]
    | cons e es =>
      rw [Q.D.plains, Bool.and_eq_true] at p q
      rw [toPys, toPys, PyData.eqvAll, Q.D.eqvs, eqv_of p.1 q.1, eqvs_of p.2 q.2]
end
theorem eqP_some {x y : D} {b : Bool} (h : Q.eqP x y = some b) : x.plain = true ∧ y.plain = true ∧ SeqAt.shaped (toPy x) = true ∧ SeqAt.shaped (toPy y) = true ∧ PyData.eqv (toPy x) (toPy y) = b := by
  unfold Q.eqP at h
  split at h
  · rename_i q
    obtain ⟨p1, p2, d1, d2⟩ := q
    refine ⟨p1, p2, ?_, ?_, by rw [eqv_of p1 p2]; exact Option.some.inj h⟩
    · unfold SeqAt.shaped; rw [lay_of p1, depth_of]; simpa using d1
    · unfold SeqAt.shaped; rw [lay_of p2, depth_of]; simpa using d2
  · cases h
theorem od_eqP : OpD G (rEqD G.K) Q.opEqP := fun x y z h => by
  simp only [Q.opEqP, Option.map_eq_some_iff] at h
  obtain ⟨b, h, rfl⟩ := h
  obtain ⟨p1, p2, s1, s2, e⟩ := eqP_some h
  exact ⟨rfl, fun A H vx vy rx ry => ⟨.bl b, .bl b, fun P p => ⟨_, _, dp_of rx p1, dp_of ry p2, s1, s2, by rw [e]; exact p⟩⟩⟩
theorem od_neP : OpD G (rNeD G.K) Q.opNeP := fun x y z h => by
  simp only [Q.opNeP, Option.map_eq_some_iff] at h
  obtain ⟨b, h, rfl⟩ := h
  obtain ⟨p1, p2, s1, s2, e⟩ := eqP_some h
  exact ⟨rfl, fun A H vx vy rx ry => ⟨.bl (!b), .bl _, fun P p => ⟨_, _, dp_of rx p1, dp_of ry p2, s1, s2, by rw [e]; exact p⟩⟩⟩
end
end QW

set_option Elab.async false
set_option linter.all false
set_option maxRecDepth 100000
set_option maxHeartbeats 4000000
namespace QW
open PySem PySem.Spec PyProof.Rows L2
open Q (D S R RA RB Ctl Cl Pat)
/-! ### what a held list or tuple is -/
def regC (fm : Fm) (hs : List Addr) : Cl → Reg
  | .taint => TR fm hs
  | _ => Cold fm hs
section
variable {G : Cfg} {fm : Fm} {hs : List Addr} {H H' H1 : Hp} {v : V} {d : D} {c : Cl} {ds : List D} {env : Q.Env} {ks : List (V × D)} {σ : L2.St}
theorem part_ok (h : Rep G (regC fm hs c) H' v d) : VOk G fm hs H H' v d (Q.part c d) := by
  cases c with
  | taint =>
    unfold Q.part
    by_cases s : d.scalar = true
    · simp only [if_pos s]; exact Rep.scalar h s
    · simp only [if_neg s]; exact h
  | cold => exact h
  | fresh => exact h
  | hot => exact h
theorem VOk.lst (h : VOk G fm hs H H' v (.lst ds) c) : ∃ a vs, v = .ref a ∧ H' a = some (.lst vs) ∧ Reps G (regC fm hs c) H' vs ds := by
  cases c with
  | cold =>
    obtain ⟨a, rfl⟩ := (show Rep G _ H' v _ from h).lst_inv
    obtain ⟨vs, e, _, r⟩ := (show Rep G _ H' _ _ from h).lstSq
    exact ⟨a, vs, rfl, e, r⟩
  | taint =>
    obtain ⟨a, rfl⟩ := (show Rep G _ H' v _ from h).lst_inv
    obtain ⟨vs, e, _, r⟩ := (show Rep G _ H' _ _ from h).lstSq
    exact ⟨a, vs, rfl, e, r⟩
  | fresh =>
    rcases h with ⟨p, vs, ds', rfl, e, c, d, r⟩ | ⟨p, dx, vs, k, ds', rfl, e, c, d, r⟩
    · cases e
      exact ⟨p, vs, rfl, d, r.mono (Same.refl _) fun a x => x.1⟩
    · cases e
  | hot =>
    rcases h with ⟨p, vs, ds', rfl, e, c, d, r⟩ | ⟨p, dx, vs, k, ds', rfl, e, c, d, r⟩
    · cases e
      exact ⟨p, vs, rfl, d, r⟩
    · cases e
theorem VOk.tup (h : VOk G fm hs H H' v (.tup ds) c) : ∃ a vs, v = .ref a ∧ H' a = some (.tup vs) ∧ Reps G (regC fm hs c) H' vs ds := by
  cases c with
  | cold =>
    obtain ⟨a, rfl⟩ := (show Rep G _ H' v _ from h).tup_inv
    obtain ⟨vs, e, _, r⟩ := (show Rep G _ H' _ _ from h).tupSq
    exact ⟨a, vs, rfl, e, r⟩
  | taint =>
    obtain ⟨a, rfl⟩ := (show Rep G _ H' v _ from h).tup_inv
    obtain ⟨vs, e, _, r⟩ := (show Rep G _ H' _ _ from h).tupSq
    exact ⟨a, vs, rfl, e, r⟩
  | fresh => rcases h with ⟨p, vs, ds', rfl, e, c, d, r⟩ | ⟨p, dx, vs, k, ds', rfl, e, c, d, r⟩ <;> cases e
  | hot => rcases h with ⟨p, vs, ds', rfl, e, c, d, r⟩ | ⟨p, dx, vs, k, ds', rfl, e, c, d, r⟩ <;> cases e
theorem VOk.obj {n : Nat} (h : VOk G fm hs H H' v (.obj n ds) c) : ∃ a dx vs, v = .ref a ∧ H' a = some (.ins (G.cls n) dx ((G.names n).zip vs)) ∧ Reps G (regC fm hs c) H' vs ds := by
  cases c with
  | cold => cases (show Rep G _ H' v _ from h) with | obj ha h hl hr => exact ⟨_, _, _, rfl, h, hl, hr⟩
  | taint => cases (show Rep G _ H' v _ from h) with | obj ha h hl hr => exact ⟨_, _, _, rfl, h, hl, hr⟩
  | fresh =>
    rcases h with ⟨p, vs, ds', rfl, e, c, d, r⟩ | ⟨p, dx, vs, k, ds', rfl, e, c, d, r⟩
    · cases e
    · cases e
      exact ⟨p, dx, vs, rfl, d, r.mono (Same.refl _) fun a x => x.1⟩
  | hot =>
    rcases h with ⟨p, vs, ds', rfl, e, c, d, r⟩ | ⟨p, dx, vs, k, ds', rfl, e, c, d, r⟩
    · cases e
    · cases e
      exact ⟨p, dx, vs, rfl, d, r⟩
theorem reg_any (c : Cl) : ∀ a, regC fm hs c a → TR fm hs a := fun a h => by
  cases c with
  | taint => exact h
  | _ => exact .inl h.1
theorem atI_rep {A : Reg} {vs : List V} {i : Int} (r : Reps G A H vs ds) (h : Q.atI ds i = some d) : ∃ v, L2.atI vs i = some v ∧ Rep G A H v d := by
  have e : Q.atI ds i = (L2.ixN ds.length i).bind fun j => ds[j]? := rfl
  rw [e] at h
  have e2 : L2.atI vs i = (L2.ixN vs.length i).bind fun j => vs[j]? := rfl
  rw [e2, r.1]
  cases q : L2.ixN ds.length i with
  | none => rw [q] at h; cases h
  | some j =>
    rw [q] at h
    exact r.get h
theorem Reps.cut {A : Reg} {vs : List V} (r : Reps G A H vs ds) (lo hi : Option Int) : Reps G A H (cutV vs lo hi) (Q.cut ds lo hi) := by
  have e : cutV vs lo hi = (vs.drop (Q.sIx vs.length 0 lo)).take (Q.sIx vs.length vs.length hi - Q.sIx vs.length 0 lo) := rfl
  rw [e, r.1]
  exact (r.drop _).take _
theorem Reps.scalars {A B : Reg} {vs : List V} (r : Reps G A H vs ds) (s : ds.all Q.D.scalar = true) : Reps G B H' vs ds :=
  ⟨r.1, fun i v d a b => (r.2 i v d a b).scalar (List.all_eq_true.mp s d (List.mem_of_getElem? b))⟩
/-- a new list of items that were held so -/
theorem again_ok {vs : List V} {p : Addr} (E : EnvOk G fm hs env ks σ H) (s : Same H H1) (r : Reps G (regC fm hs c) H1 vs ds) (hp : H1 p = none) : VOk G fm hs H1 (upd H1 p (.lst vs)) (.ref p) (.lst ds) (Q.again c ds) := by
  have fr : ∀ {c : Cl}, c ≠ .taint → Reps G (regC fm hs c) H1 vs ds → VOk G fm hs H1 (upd H1 p (.lst vs)) (.ref p) (.lst ds) .fresh := fun {c} hc r => by
    refine .inl ⟨p, vs, ds, rfl, rfl, hp, upd_same, reps_fresh ?_ hp⟩
    cases c with
    | taint => exact absurd rfl hc
    | _ => exact r
  cases c with
  | taint =>
    unfold Q.again
    by_cases q : ds.all Q.D.scalar = true
    · simp only [if_pos q]
      exact .inl ⟨p, vs, ds, rfl, rfl, hp, upd_same, r.scalars q⟩
    · simp only [if_neg q]
      exact Rep.lst (.inl ((E.later s).newCold hp).1) upd_same r.1 (r.later (same_new hp)).2
  | cold => exact fr (by intro z; cases z) r
  | fresh => exact fr (by intro z; cases z) r
  | hot => exact fr (by intro z; cases z) r
end
/-! ### subscripts, slices -/
section
variable {X : Cx} {W : WX} {G : Cfg} {a b : Expr} {ea eb : Q.X} {pos : Pos}
theorem q_idx (hK : X.K = G.K) (ha : PE X a (tE G W ea)) (hb : PE X b (tE G W eb)) (hs : PlainIx b := by exact fun _ _ => rfl) : PE X (.Subscript a b pos) (tE G W (Q.idx ea eb)) := by
  have ix : IxR X (rIx G.K) := hK ▸ ix_seq
  refine (pe_ix ix ha hb hs).conv fun σ H P ⟨fm, hs, env, E, acc⟩ => tE_in E (acc_bind acc) fun d c v H1 E1 s1 o1 acc1 => tE_in E1 (acc_bind acc1) fun d2 c2 v2 H2 E2 s2 o2 acc2 => ?_
  have i2 := o2.anyR E1
  cases d with
  | lst ds =>
    cases d2 with
    | int i =>
      cases i2
      obtain ⟨p, vs, rfl, e, r⟩ := (o1.later s2).lst
      cases q : Q.atI ds i with
      | none => simp only [Q.item, q] at acc2; exact acc2.elim
      | some z =>
        simp only [Q.item, q] at acc2
        obtain ⟨w, h1, h2⟩ := atI_rep r q
        exact .inl ⟨p, vs, i, w, rfl, rfl, SqL.of e, h1, acc2 _ H2 (Same.refl _) (part_ok h2)⟩
    | _ => exact acc2.elim
  | tup ds =>
    cases d2 with
    | int i =>
      cases i2
      obtain ⟨p, vs, rfl, e, r⟩ := (o1.later s2).tup
      cases q : Q.atI ds i with
      | none => simp only [Q.item, q] at acc2; exact acc2.elim
      | some z =>
        simp only [Q.item, q] at acc2
        obtain ⟨w, h1, h2⟩ := atI_rep r q
        exact .inr (.inl ⟨p, vs, i, w, rfl, rfl, SqT.of e, h1, acc2 _ H2 (Same.refl _) (part_ok h2)⟩)
    | _ => exact acc2.elim
  | frz ns =>
    cases d2 with
    | int i =>
      cases i2
      have r := (o1.later s2).anyR E
      obtain ⟨p, rfl⟩ := r.frz_inv
      cases q : Q.atI ns i with
      | none => simp only [Q.item, q] at acc2; exact acc2.elim
      | some z =>
        simp only [Q.item, q, Option.map] at acc2
        refine .inl ⟨p, ns.map V.int, i, .int z, rfl, rfl, r.frzSq, ?_, acc2 _ H2 (Same.refl _) (part_ok (Rep.int z))⟩
        have e : Q.atI ns i = (L2.ixN ns.length i).bind fun j => ns[j]? := rfl
        have e2 : L2.atI (ns.map V.int) i = (L2.ixN (ns.map V.int).length i).bind fun j => (ns.map V.int)[j]? := rfl
        rw [e] at q
        rw [e2, List.length_map]
        cases q' : L2.ixN ns.length i with
        | none => rw [q'] at q; cases q
        | some j =>
          rw [q'] at q
          show (ns.map V.int)[j]? = _
          rw [List.getElem?_map, show ns[j]? = some z from q]
          rfl
    | _ => exact acc2.elim
  | _ => cases d2 <;> exact acc2.elim
def AccO (H : Hp) (r : Option (Option Int)) (P : Option Int → Hp → Prop) : Prop := match r with
  | some o => ∀ H', Same H H' → P o H'
  | none => False
def tO (G : Cfg) (ev : Q.XO) : TO := fun σ H P => ∃ fm hs env, EnvOk G fm hs env [] σ H ∧ AccO H (ev env) P
theorem q_onone : PO X none (tO G Q.onone) := ⟨fun pins s σ H P I h => po_none.run pins s σ H P I (by obtain ⟨fm, hs, env, E, acc⟩ := h; exact acc H (Same.refl _))⟩
theorem q_osome (ha : PE X a (tE G W ea)) : PO X (some a) (tO G (Q.osome ea)) := ⟨fun pins s σ H P I h => (po_some ha).run pins s σ H P I (by
  obtain ⟨fm, hs, env, E, acc⟩ := h
  refine ⟨fm, hs, env, E, ?_⟩
  have e : Q.osome ea env = (match ea env with
    | .ok (.int i) _ => some (some i)
    | _ => none) := rfl
  rw [e] at acc
  cases q : ea env with
  | exc k fs => rw [q] at acc; exact acc.elim
  | bad => rw [q] at acc; exact acc.elim
  | ok d c =>
    rw [q] at acc
    cases d with
    | int i =>
      intro v H' s o
      cases (o.anyR E)
      exact ⟨i, rfl, acc H' s⟩
    | _ => exact acc.elim)⟩
theorem q_slice {lo hi : Option Expr} {ol oh : Q.XO} {p2 : Pos} (hK : X.K = G.K) (ha : PE X a (tE G W ea)) (hl : PO X lo (tO G ol)) (hh : PO X hi (tO G oh)) : PE X (.Subscript a (.Slice lo hi none p2) pos) (tE G W (Q.slice ea ol oh)) := by
  have sl : SlR X (fun x l h H Q => rSlL G.K x l h H Q ∨ rSlT G.K x l h H Q) := hK ▸ (SlR.or sl_list sl_tup)
  refine (pe_slice sl ha hl hh).conv fun σ H P ⟨fm, hs, env, E, acc⟩ => tE_in E (acc_bind acc) fun d c v H1 E1 s1 o1 acc1 => ?_
  cases ql : ol env with
  | none => simp only [ql] at acc1; exact acc1.elim
  | some l =>
    cases qh : oh env with
    | none => simp only [ql, qh] at acc1; exact acc1.elim
    | some h =>
      simp only [ql, qh] at acc1
      refine ⟨fm, hs, env, E1, ?_⟩
      rw [ql]
      intro H2 s2
      refine ⟨fm, hs, env, E1.later s2, ?_⟩
      rw [qh]
      intro H3 s3
      have s13 := s2.trans s3
      cases d with
      | lst ds =>
        obtain ⟨p, vs, rfl, e, r⟩ := (o1.later s13).lst
        refine .inl ⟨p, vs, rfl, SqL.of e, fun q hq => ?_⟩
        exact acc1 _ _ (s13.trans (same_new hq)) ((again_ok (E1.later s13) (Same.refl _) (r.cut l h) hq).earlier s13)
      | frz ns =>
        have r := (o1.later s13).anyR E
        obtain ⟨p, rfl⟩ := r.frz_inv
        refine .inl ⟨p, ns.map V.int, rfl, r.frzSq, fun q hq => ?_⟩
        have e : cutV (ns.map V.int) l h = (Q.cut ns l h).map V.int := by
          have e1 : cutV (ns.map V.int) l h = ((ns.map V.int).drop (Q.sIx (ns.map V.int).length 0 l)).take (Q.sIx (ns.map V.int).length (ns.map V.int).length h - Q.sIx (ns.map V.int).length 0 l) := rfl
          rw [e1, List.length_map, ← List.map_drop, ← List.map_take]
          rfl
        rw [e]
        exact acc1 _ _ (s13.trans (same_new hq)) (VOk.earlier (.inl ⟨q, _, _, rfl, rfl, hq, upd_same, reps_ints _⟩) s13)
      | tup ds =>
        obtain ⟨p, vs, rfl, e, r⟩ := (o1.later s13).tup
        by_cases w : Q.sIx ds.length 0 l = 0 ∧ Q.sIx ds.length ds.length h = ds.length
        · simp only [if_pos w] at acc1; exact acc1.elim
        · simp only [if_neg w] at acc1
          refine .inr ⟨p, vs, rfl, SqT.of e, by rw [r.1]; exact w, fun q hq => ?_⟩
          refine acc1 _ _ (s13.trans (same_new hq)) (part_ok ?_)
          have rc := (r.cut l h).later (same_new (o := .tup (cutV vs l h)) hq)
          refine Rep.tup ?_ upd_same rc.1 rc.2
          have nc := (E1.later s13).newCold hq
          cases c with
          | taint => exact .inl nc.1
          | _ => exact nc
      | _ => exact acc1.elim
end
/-! ### built-ins -/
/-- a call on one value, on two -/
def C1D (G : Cfg) (r : List V → Hp → VK → Prop) (f : D → Option D) : Prop :=
  ∀ x z, f x = some z → z.scalar = true ∧ ∀ (A : Reg) (H : Hp) vx, Rep G A H vx x → ∃ vz, Rep G A H vz z ∧ ∀ P : VK, P vz H → r [vx] H P
def C2D (G : Cfg) (r : List V → Hp → VK → Prop) (f : D → D → Option D) : Prop :=
  ∀ x y z, f x y = some z → z.scalar = true ∧ ∀ (A : Reg) (H : Hp) vx vy, Rep G A H vx x → Rep G A H vy y → ∃ vz, Rep G A H vz z ∧ ∀ P : VK, P vz H → r [vx, vy] H P
section
variable {X : Cx} {W : WX} {G : Cfg} {a b : Expr} {ea eb : Q.X} {p pos : Pos} {id : String} {x : Str} {r : List V → Hp → VK → Prop}
theorem q_call1 {f : D → Option D} (hc : CallR X (.builtin id) r) (hf : C1D G r f) (hm : X.mg x = none) (hv : bootBuiltins x = some (.builtin id)) (ha : PE X a (tE G W ea)) (hg : Gl X x := by rfl) (hn : x ≠ "__name__" := by decide) (hdb : (x == ("__debug__" : Str)) = false := by decide)
    (he : starEach (a :: []) X.env = (false, eval a X.env) :: starEach [] X.env := by rfl) (hpl : (backTo pos (starEach [] X.env)).any (·.1) = false := by rfl) :
    PE X (.Call (.Name x p) [a] [] pos) (tE G W (Q.op1 f ea)) :=
  (pe_callB hc hg hm hv (pa_cons ha pa_nil he) hn hdb he hpl).conv fun σ H P ⟨fm, hs, env, E, acc⟩ => tE_in E (acc_bind acc) fun d c v H1 E1 s1 o1 acc1 => by
    obtain ⟨z, q, acc3⟩ := ofO_some acc1
    obtain ⟨sz, k⟩ := hf d z q
    obtain ⟨vz, rz, k⟩ := k _ H1 v (o1.anyR E)
    exact k _ (acc3 vz H1 (Same.refl _) (rz.scalar sz))
theorem q_call2 {f : D → D → Option D} (hc : CallR X (.builtin id) r) (hf : C2D G r f) (hm : X.mg x = none) (hv : bootBuiltins x = some (.builtin id)) (ha : PE X a (tE G W ea)) (hb : PE X b (tE G W eb)) (hg : Gl X x := by rfl) (hn : x ≠ "__name__" := by decide) (hdb : (x == ("__debug__" : Str)) = false := by decide)
    (he : starEach (a :: [b]) X.env = (false, eval a X.env) :: starEach [b] X.env := by rfl) (he2 : starEach (b :: []) X.env = (false, eval b X.env) :: starEach [] X.env := by rfl) (hpl : (backTo pos (starEach [b] X.env)).any (·.1) = false := by rfl) :
    PE X (.Call (.Name x p) [a, b] [] pos) (tE G W (Q.op2 f ea eb)) :=
  (pe_callB hc hg hm hv (pa_cons ha (pa_cons hb pa_nil he2) he) hn hdb he hpl).conv fun σ H P ⟨fm, hs, env, E, acc⟩ => tE_in E (acc_bind acc) fun d c v H1 E1 s1 o1 acc1 => tE_in E1 (acc_bind acc1) fun d2 c2 v2 H2 E2 s2 o2 acc2 => by
    obtain ⟨z, q, acc3⟩ := ofO_some acc2
    obtain ⟨sz, k⟩ := hf d d2 z q
    obtain ⟨vz, rz, k⟩ := k _ H2 v v2 ((o1.anyR E).later s2) (o2.anyR E1)
    exact k _ (acc3 vz H2 (Same.refl _) (rz.scalar sz))
theorem cd_len : C1D G (fun xs H Q => ∃ x n, xs = [x] ∧ LenV G.K x H n ∧ Q (.int n) H) Q.fLen := fun x z h => by
  cases x <;> simp at h <;> subst h <;> refine ⟨rfl, fun A H vx rx => ?_⟩
  · obtain ⟨a, rfl⟩ := rx.tup_inv
    obtain ⟨vs, _, hs, r⟩ := rx.tupSq
    exact ⟨_, .int _, fun P q => ⟨_, vs.length, rfl, .inr ⟨vs, hs, rfl⟩, by rw [r.1]; exact q⟩⟩
  · obtain ⟨a, rfl⟩ := rx.lst_inv
    obtain ⟨vs, _, hs, r⟩ := rx.lstSq
    exact ⟨_, .int _, fun P q => ⟨_, vs.length, rfl, .inl ⟨vs, hs, rfl⟩, by rw [r.1]; exact q⟩⟩
  · obtain ⟨a, rfl⟩ := rx.frz_inv
    exact ⟨_, .int _, fun P q => ⟨_, _, rfl, .inl ⟨_, rx.frzSq, rfl⟩, by rw [List.length_map]; exact q⟩⟩
theorem cd_abs : C1D G (fun xs H Q => ∃ i, xs = [.int i] ∧ Q (.int (if i < 0 then -i else i)) H) Q.fAbs := fun x z h => by
  cases x <;> simp at h
  subst h
  refine ⟨rfl, fun A H vx rx => ?_⟩
  cases rx
  exact ⟨_, .int _, fun P q => ⟨_, rfl, q⟩⟩
theorem cd_max2 : C2D G (fun xs H Q => ∃ i j, xs = [.int i, .int j] ∧ Q (.int (if j > i then j else i)) H) Q.fMax2 := fun x y z h => by
  cases x <;> cases y <;> simp at h
  subst h
  refine ⟨rfl, fun A H vx vy rx ry => ?_⟩
  cases rx; cases ry
  exact ⟨_, .int _, fun P q => ⟨_, _, rfl, q⟩⟩
theorem cd_min2 : C2D G (fun xs H Q => ∃ i j, xs = [.int i, .int j] ∧ Q (.int (if j < i then j else i)) H) Q.fMin2 := fun x y z h => by
  cases x <;> cases y <;> simp at h
  subst h
  refine ⟨rfl, fun A H vx vy rx ry => ?_⟩
  cases rx; cases ry
  exact ⟨_, .int _, fun P q => ⟨_, _, rfl, q⟩⟩
theorem lst_ints {A : Reg} {H : Hp} {a : Addr} {ds : List D} {ns : List Int} (h : Rep G A H (.ref a) (.lst ds)) (q : Q.intsD ds = some ns) : H a = some (.lst (ns.map V.int)) := by
  obtain ⟨vs, e, hs, r⟩ := h.lstSq
  rw [← r.intsD (Q.of_ints q)]
  exact e
theorem cd_sum : C1D G (rSum G.K) Q.fSum := fun x z h => by
  cases x <;> simp at h
  obtain ⟨ns, q, rfl⟩ := h
  refine ⟨rfl, fun A H vx rx => ?_⟩
  obtain ⟨a, rfl⟩ := rx.lst_inv
  exact ⟨_, .int _, fun P p => ⟨a, ns, rfl, SqL.of (lst_ints rx q), p⟩⟩
theorem foldl_max (l : List Int) : ∀ x : Int, (l.foldl max x ∈ x :: l) ∧ ∀ y ∈ x :: l, y ≤ l.foldl max x := by
  induction l with
  | nil => intro x; exact ⟨by simp, fun y h => by simp at h; simp [h]⟩
  | cons z r ih =>
    intro x
    obtain ⟨h1, h2⟩ := ih (max x z)
    rw [List.foldl_cons]
    have h3 := h2 (max x z) List.mem_cons_self
    refine ⟨?_, fun y h => ?_⟩
    · rcases List.mem_cons.mp h1 with e | m
      · rw [e]
        by_cases q : x ≤ z
        · rw [Int.max_eq_right q]; simp
        · rw [Int.max_eq_left (by omega)]; simp
      · exact List.mem_cons_of_mem _ (List.mem_cons_of_mem _ m)
    · rcases List.mem_cons.mp h with rfl | m
      · exact Int.le_trans (Int.le_max_left _ _) h3
      · rcases List.mem_cons.mp m with rfl | m
        · exact Int.le_trans (Int.le_max_right _ _) h3
        · exact h2 y (List.mem_cons_of_mem _ m)
theorem foldl_min (l : List Int) : ∀ x : Int, (l.foldl min x ∈ x :: l) ∧ ∀ y ∈ x :: l, l.foldl min x ≤ y := by
  induction l with
  | nil => intro x; exact ⟨by simp, fun y h => by simp at h; simp [h]⟩
  | cons z r ih =>
    intro x
    obtain ⟨h1, h2⟩ := ih (min x z)
    rw [List.foldl_cons]
    have h3 := h2 (min x z) List.mem_cons_self
    refine ⟨?_, fun y h => ?_⟩
    · rcases List.mem_cons.mp h1 with e | m
      · rw [e]
        by_cases q : x ≤ z
        · rw [Int.min_eq_left q]; simp
        · rw [Int.min_eq_right (by omega)]; simp
      · exact List.mem_cons_of_mem _ (List.mem_cons_of_mem _ m)
    · rcases List.mem_cons.mp h with rfl | m
      · exact Int.le_trans h3 (Int.min_le_left _ _)
      · rcases List.mem_cons.mp m with rfl | m
        · exact Int.le_trans h3 (Int.min_le_right _ _)
        · exact h2 y (List.mem_cons_of_mem _ m)
theorem cd_max : C1D G (rMax G.K) Q.fMax := fun x z h => by
  cases x with
  | lst ds =>
    simp only [Q.fMax] at h
    cases q : Q.intsD ds with
    | none => rw [q] at h; cases h
    | some ns =>
      rw [q] at h
      cases ns with
      | nil => cases h
      | cons n ns =>
        cases h
        refine ⟨rfl, fun A H vx rx => ?_⟩
        obtain ⟨a, rfl⟩ := rx.lst_inv
        refine ⟨_, .int _, fun P p => ⟨a, n :: ns, rfl, SqL.of (lst_ints rx q), by simp, fun m hm hle => ?_⟩⟩
        obtain ⟨h1, h2⟩ := foldl_max ns n
        have e : m = Q.maxI (n :: ns) := Int.le_antisymm (h2 m hm) (hle _ h1)
        rw [e]
        exact p
  | _ => simp at h
theorem cd_min : C1D G (rMin G.K) Q.fMin := fun x z h => by
  cases x with
  | lst ds =>
    simp only [Q.fMin] at h
    cases q : Q.intsD ds with
    | none => rw [q] at h; cases h
    | some ns =>
      rw [q] at h
      cases ns with
      | nil => cases h
      | cons n ns =>
        cases h
        refine ⟨rfl, fun A H vx rx => ?_⟩
        obtain ⟨a, rfl⟩ := rx.lst_inv
        refine ⟨_, .int _, fun P p => ⟨a, n :: ns, rfl, SqL.of (lst_ints rx q), by simp, fun m hm hle => ?_⟩⟩
        obtain ⟨h1, h2⟩ := foldl_min ns n
        have e : m = Q.minI (n :: ns) := Int.le_antisymm (hle _ h1) (h2 m hm)
        rw [e]
        exact p
  | _ => simp at h
theorem lst_bools {A : Reg} {H : Hp} {a : Addr} {ds : List D} {ns : List Bool} (h : Rep G A H (.ref a) (.lst ds)) (q : Q.bools ds = some ns) : H a = some (.lst (ns.map V.bl)) := by
  obtain ⟨vs, e, hs, r⟩ := h.lstSq
  rw [← r.bools (Q.of_bools q)]
  exact e
theorem cd_any : C1D G (rAny G.K) Q.fAny := fun x z h => by
  cases x <;> simp at h
  obtain ⟨ns, q, rfl⟩ := h
  refine ⟨rfl, fun A H vx rx => ?_⟩
  obtain ⟨a, rfl⟩ := rx.lst_inv
  exact ⟨_, .bl _, fun P p => ⟨a, ns, rfl, SqL.of (lst_bools rx q), p⟩⟩
theorem cd_all : C1D G (rAll G.K) Q.fAll := fun x z h => by
  cases x <;> simp at h
  obtain ⟨ns, q, rfl⟩ := h
  refine ⟨rfl, fun A H vx rx => ?_⟩
  obtain ⟨a, rfl⟩ := rx.lst_inv
  exact ⟨_, .bl _, fun P p => ⟨a, ns, rfl, SqL.of (lst_bools rx q), p⟩⟩
theorem sortI_of {ns ns' : List Int} (p : ns'.Perm ns) (h : ns'.Pairwise (· ≤ ·)) : ns' = Q.sortI ns := by
  refine List.Perm.eq_of_pairwise (le := (· ≤ ·)) (fun a b _ _ => Int.le_antisymm) h ?_ (p.trans (List.mergeSort_perm _ _).symm)
  refine (List.pairwise_mergeSort (le := fun a b : Int => decide (a ≤ b)) (fun a b c h1 h2 => ?_) (fun a b => ?_) ns).imp fun h => of_decide_eq_true h
  · exact decide_eq_true (Int.le_trans (of_decide_eq_true h1) (of_decide_eq_true h2))
  · rw [Bool.or_eq_true, decide_eq_true_eq, decide_eq_true_eq]; omega
theorem q_sortedI (hK : X.K = G.K) (hm : X.mg "sorted" = none) (ha : PE X a (tE G W ea)) (hg : Gl X "sorted" := by rfl)
    (he : starEach (a :: []) X.env = (false, eval a X.env) :: starEach [] X.env := by rfl) (hpl : (backTo pos (starEach [] X.env)).any (·.1) = false := by rfl) :
    PE X (.Call (.Name "sorted" p) [a] [] pos) (tE G W (Q.sortedI ea)) := by
  have cr : CallR X (.builtin "sorted") (rSortedI G.K) := hK ▸ cr_sortedI
  refine (pe_callB cr hg hm (by decide +kernel) (pa_cons ha pa_nil he) (by decide) (by decide) he hpl).conv fun σ H P ⟨fm, hs, env, E, acc⟩ => tE_in E (acc_bind acc) fun d c v H1 E1 s1 o1 acc1 => ?_
  cases d with
  | lst ds =>
    cases q : Q.intsD ds with
    | none => simp only [q] at acc1; exact acc1.elim
    | some ns =>
      simp only [q] at acc1
      have r := o1.anyR E
      obtain ⟨a', rfl⟩ := r.lst_inv
      refine ⟨a', ns, rfl, SqL.of (lst_ints r q), fun ns' t pm pw ht => ?_⟩
      rw [sortI_of pm pw]
      exact acc1 _ _ (same_new ht) (.inl ⟨t, _, _, rfl, rfl, ht, upd_same, reps_ints _⟩)
  | _ => exact acc1.elim
theorem q_listOf (hK : X.K = G.K) (hm : X.mg "list" = none) (ha : PE X a (tE G W ea)) (hg : Gl X "list" := by rfl)
    (he : starEach (a :: []) X.env = (false, eval a X.env) :: starEach [] X.env := by rfl) (hpl : (backTo pos (starEach [] X.env)).any (·.1) = false := by rfl) :
    PE X (.Call (.Name "list" p) [a] [] pos) (tE G W (Q.listOf ea)) := by
  have cr : CallR X (.type "list") (fun xs H Q => ∃ p ys, xs = [.ref p] ∧ (SqL G.K H p ys ∨ SqT G.K H p ys) ∧ ∀ l, H l = none → Q (.ref l) (upd H l (.lst ys))) := hK ▸ call_list_of
  refine (pe_callTy cr hg hm (by decide +kernel) (pa_cons ha pa_nil he) (by decide) (by decide) he hpl).conv fun σ H P ⟨fm, hs, env, E, acc⟩ => tE_in E (acc_bind acc) fun d c v H1 E1 s1 o1 acc1 => ?_
  cases d with
  | lst ds =>
    obtain ⟨q, vs, rfl, e, r⟩ := o1.lst
    exact ⟨q, vs, rfl, .inl (SqL.of e), fun l hl => acc1 _ _ (same_new hl) (again_ok E1 (Same.refl _) r hl)⟩
  | tup ds =>
    obtain ⟨q, vs, rfl, e, r⟩ := o1.tup
    exact ⟨q, vs, rfl, .inr (SqT.of e), fun l hl => acc1 _ _ (same_new hl) (again_ok E1 (Same.refl _) r hl)⟩
  | frz ns =>
    have r := o1.anyR E
    obtain ⟨q, rfl⟩ := r.frz_inv
    refine ⟨q, _, rfl, .inl r.frzSq, fun l hl => acc1 _ _ (same_new hl) ?_⟩
    refine again_ok E1 (Same.refl _) (c := c) ?_ hl
    exact (reps_ints ns)
  | _ => exact acc1.elim
theorem q_tupOf (hK : X.K = G.K) (hm : X.mg "tuple" = none) (ha : PE X a (tE G W ea)) (hg : Gl X "tuple" := by rfl)
    (he : starEach (a :: []) X.env = (false, eval a X.env) :: starEach [] X.env := by rfl) (hpl : (backTo pos (starEach [] X.env)).any (·.1) = false := by rfl) :
    PE X (.Call (.Name "tuple" p) [a] [] pos) (tE G W (Q.tupOf ea)) := by
  have cr : CallR X (.type "tuple") (fun xs H Q => ∃ p ys, xs = [.ref p] ∧ ((SqL G.K H p ys ∧ ∀ l, H l = none → Q (.ref l) (upd H l (.tup ys))) ∨ (SqT G.K H p ys ∧ Q (.ref p) H))) := hK ▸ call_tuple_of
  refine (pe_callTy cr hg hm (by decide +kernel) (pa_cons ha pa_nil he) (by decide) (by decide) he hpl).conv fun σ H P ⟨fm, hs, env, E, acc⟩ => tE_in E (acc_bind acc) fun d c v H1 E1 s1 o1 acc1 => ?_
  cases d with
  | lst ds =>
    obtain ⟨q, vs, rfl, e, r⟩ := o1.lst
    refine ⟨q, vs, rfl, .inl ⟨SqL.of e, fun l hl => acc1 _ _ (same_new hl) (part_ok ?_)⟩⟩
    have r2 := r.later (same_new (o := .tup vs) hl)
    refine Rep.tup ?_ upd_same r2.1 r2.2
    have nc := E1.newCold hl
    cases c with
    | taint => exact .inl nc.1
    | _ => exact nc
  | tup ds =>
    obtain ⟨q, vs, rfl, e, r⟩ := o1.tup
    refine ⟨q, vs, rfl, .inr ⟨SqT.of e, acc1 _ _ (Same.refl _) (part_ok ?_)⟩⟩
    cases c with
    | taint => exact o1
    | cold => exact o1
    | fresh => rcases o1 with ⟨_, _, _, _, e, _⟩ | ⟨_, _, _, _, _, _, e, _⟩ <;> cases e
    | hot => rcases o1 with ⟨_, _, _, _, e, _⟩ | ⟨_, _, _, _, _, _, e, _⟩ <;> cases e
  | _ => exact acc1.elim
theorem q_listRng2 (hc : X.calm = true) (hml : X.mg "list" = none) (hmr : X.mg "range" = none) (ha : PE X a (tE G W ea)) (hb : PE X b (tE G W eb)) {p1 p2 : Pos} (hg : Gl X "list" := by rfl) (hg2 : Gl X "range" := by rfl)
    (na : starEach [.Call (.Name "range" p1) [a, b] [] p2] X.env = (false, eval (.Call (.Name "range" p1) [a, b] [] p2) X.env) :: starEach [] X.env := by rfl)
    (nr : starEach [a, b] X.env = (false, eval a X.env) :: starEach [b] X.env := by rfl) (nr2 : starEach [b] X.env = (false, eval b X.env) :: starEach [] X.env := by rfl) (nr3 : (backTo p2 (starEach [b] X.env)).any (·.1) = false := by rfl) :
    PE X (.Call (.Name "list" p) [.Call (.Name "range" p1) [a, b] [] p2] [] pos) (tE G W (Q.listRng ea eb)) :=
  (pe_listRg hc hg hml (prg_2 (pos := p2) hg2 hmr ha hb nr nr2 nr3) na).conv fun σ H P ⟨fm, hs, env, E, acc⟩ => tE_in E (acc_bind acc) fun d c v H1 E1 s1 o1 acc1 => tE_in E1 (acc_bind acc1) fun d2 c2 v2 H2 E2 s2 o2 acc2 => by
    cases d with
    | int i =>
      cases d2 with
      | int j =>
        cases (o1.anyR E); cases (o2.anyR E1)
        by_cases q : (-4000000000 < i ∧ i < 4000000000) ∧ (-4000000000 < j ∧ j < 4000000000) ∧ j - i ≤ 1000000
        · simp only [if_pos q] at acc2
          refine ⟨i, j, rfl, rfl, ⟨by omega, by omega, by omega, by omega, by omega⟩, fun t ht => ?_⟩
          refine acc2 _ _ (same_new ht) (.inl ⟨t, _, _, rfl, rfl, ht, upd_same, ?_⟩)
          have e : rgV i j = ((List.range (j - i).toNat).map fun (k : Nat) => i + (k : Int)).map V.int := by
            unfold rgV
            rw [List.map_map]
            rfl
          rw [e]
          exact reps_ints _
        · simp only [if_neg q] at acc2; exact acc2.elim
      | _ => exact acc2.elim
    | _ => cases d2 <;> exact acc2.elim
theorem q_cat (ha : PE X a (tE G W ea)) (hb : PE X b (tE G W eb)) : PE X (.BinOp a .Add b pos) (tE G W (Q.catx ea eb)) :=
  (pe_op op_cat ha hb).conv fun σ H P ⟨fm, hs, env, E, acc⟩ => tE_in E (acc_bind acc) fun d c v H1 E1 s1 o1 acc1 => tE_in E1 (acc_bind acc1) fun d2 c2 v2 H2 E2 s2 o2 acc2 => by
    cases d with
    | lst xs =>
      cases d2 with
      | lst ys =>
        by_cases q : xs.length + ys.length ≤ Q.most
        · simp only [if_pos q] at acc2
          obtain ⟨p1, vs, rfl, e1, r1⟩ := (o1.later s2).lst
          obtain ⟨p2, us, rfl, e2, r2⟩ := o2.lst
          refine ⟨p1, p2, vs, us, rfl, rfl, e1, e2, most_line (by rw [r1.1, r2.1]; exact q), fun t ht => ?_⟩
          refine acc2 _ _ (same_new ht) ?_
          have taint : VOk G fm hs H2 (upd H2 t (.lst (vs ++ us))) (.ref t) (.lst (xs ++ ys)) .taint := by
            have r := ((r1.mono (Same.refl _) (reg_any c)).append (r2.mono (Same.refl _) (reg_any c2))).later (same_new (o := .lst (vs ++ us)) ht)
            exact Rep.lst (.inl (E2.newCold ht).1) upd_same r.1 r.2
          have go : ∀ {c : Cl} {ds : List D} {ws : List V}, Reps G (regC fm hs c) H2 ws ds → Q.again c ds = .fresh → Reps G (Cold fm hs) H2 ws ds := fun {c ds ws} r h => by
            cases c with
            | taint =>
              unfold Q.again at h
              by_cases z : ds.all Q.D.scalar = true
              · exact r.scalars z
              · simp only [if_neg z] at h; cases h
            | cold => exact r
            | fresh => exact r
            | hot => exact r
          cases h1 : Q.again c xs with
          | fresh =>
            cases h2 : Q.again c2 ys with
            | fresh => exact .inl ⟨t, _, _, rfl, rfl, ht, upd_same, reps_fresh ((go r1 h1).append (go r2 h2)) ht⟩
            | _ => exact taint
          | _ => exact taint
        · simp only [if_neg q] at acc2; exact acc2.elim
      | _ => exact acc2.elim
    | _ => cases d2 <;> exact acc2.elim
theorem Reps.rep {A : Reg} {H : Hp} {vs : List V} {ds : List D} (r : Reps G A H vs ds) : ∀ n : Nat, Reps G A H (List.replicate n vs).flatten (List.replicate n ds).flatten
  | 0 => Reps.nil
  | n + 1 => by
    rw [List.replicate_succ, List.replicate_succ, List.flatten_cons, List.flatten_cons]
    exact r.append (Reps.rep r n)
theorem q_rep (ha : PE X a (tE G W ea)) (hb : PE X b (tE G W eb)) : PE X (.BinOp a .Mult b pos) (tE G W (Q.repx ea eb)) :=
  (pe_op op_rep ha hb).conv fun σ H P ⟨fm, hs, env, E, acc⟩ => tE_in E (acc_bind acc) fun d c v H1 E1 s1 o1 acc1 => tE_in E1 (acc_bind acc1) fun d2 c2 v2 H2 E2 s2 o2 acc2 => by
    cases d with
    | lst xs =>
      cases d2 with
      | int k =>
        by_cases q : k ≤ 1000000 ∧ -1000000 ≤ k ∧ xs.length * k.toNat ≤ Q.most
        · simp only [if_pos q] at acc2
          cases (o2.anyR E1)
          obtain ⟨p1, vs, rfl, e1, r1⟩ := (o1.later s2).lst
          refine ⟨p1, k, vs, rfl, rfl, e1, by omega, by omega, most_line (by rw [r1.1]; exact q.2.2), fun t ht => ?_⟩
          have rr := r1.rep k.toNat
          refine acc2 _ _ (same_new ht) ?_
          have e : Q.again c xs = Q.again c xs := rfl
          cases c with
          | taint =>
            unfold Q.again
            by_cases z : xs.all Q.D.scalar = true
            · simp only [if_pos z]
              exact .inl ⟨t, _, _, rfl, rfl, ht, upd_same, (r1.scalars (B := fun a => Cold fm hs a ∧ a ≠ t) (H' := L2.upd H2 t (.lst (List.replicate k.toNat vs).flatten)) z).rep k.toNat⟩
            · simp only [if_neg z]
              exact Rep.lst (.inl (E2.newCold ht).1) upd_same rr.1 (rr.later (same_new ht)).2
          | cold => exact .inl ⟨t, _, _, rfl, rfl, ht, upd_same, reps_fresh rr ht⟩
          | fresh => exact .inl ⟨t, _, _, rfl, rfl, ht, upd_same, reps_fresh rr ht⟩
          | hot => exact .inl ⟨t, _, _, rfl, rfl, ht, upd_same, reps_fresh rr ht⟩
        · simp only [if_neg q] at acc2; exact acc2.elim
      | _ => exact acc2.elim
    | _ => cases d2 <;> exact acc2.elim
end
end QW

set_option Elab.async false
set_option linter.all false
set_option maxRecDepth 100000
set_option maxHeartbeats 4000000
namespace QW
open PySem PySem.Spec PyProof.Rows L2
open Q (D S R RA RB Ctl Cl Pat)
/-! ### what is walked -/
/-- an iterator that yields these items while its sources stand -/
def ItOk (G : Cfg) (J : It) (src : List (V × D)) (ds : List D) : Prop :=
  ∀ (A : Reg) (H : Hp) (i : Nat), (∀ s ∈ src, Rep G A H s.1 s.2) → (i < ds.length → J.go i H) ∧ (i = ds.length → J.stop i H) ∧ ∀ x H' d, J.yld i H x H' → ds[i]? = some d → Same H H' ∧ Rep G (fun a => A a ∨ H a = none) H' x d
def AccI (G : Cfg) (fm : Fm) (hs : List Addr) (H : Hp) (r : RA) (P : It → Hp → Prop) : Prop := match r with
  | .ok ds _ => ∀ J src H', Same H H' → (∀ s ∈ src, Rep G (Cold fm hs) H' s.1 s.2) → ItOk G J src ds → P J H'
  | _ => False
def tI (G : Cfg) (ev : Q.XI) : TI := fun σ H P => ∃ fm hs env, EnvOk G fm hs env [] σ H ∧ AccI G fm hs H (ev env) P
section
variable {G : Cfg} {fm : Fm} {hs : List Addr} {H H1 : Hp}
theorem AccI.later {r : RA} {P : It → Hp → Prop} (h : AccI G fm hs H r P) (s : Same H H1) : AccI G fm hs H1 r P := by
  cases r with
  | ok d c => exact fun J src H' s' q k => h J src H' (s.trans s') q k
  | exc k fs => exact h
  | bad => exact h
theorem accI_bind {r : R} {k : D → Cl → RA} {P : It → Hp → Prop} {W : WX} {σ : L2.St} (h : AccI G fm hs H (r.bindA k) P) :
    AccR G W fm hs σ H r fun d c _ H' => AccI G fm hs H' (k d c) P := by
  cases r with
  | ok d c => exact fun v H' s q => AccI.later h s
  | exc k fs => exact h.elim
  | bad => exact h
theorem it_list {K : PySem.W.Frag} (hK : K = G.K) {a : Addr} {ds : List D} : ItOk G (Itl K a) [(.ref a, .lst ds)] ds := by
  subst hK
  intro A H i hs
  have r := hs _ List.mem_cons_self
  obtain ⟨vs, e, sq, rr⟩ := r.lstSq
  refine ⟨fun hi => ?_, fun hi => ⟨vs, sq, by rw [rr.1, hi]; exact Nat.le_refl _⟩, fun x H' d y q => ?_⟩
  · obtain ⟨v, h1, _⟩ := rr.get (List.getElem?_eq_getElem hi)
    exact ⟨vs, v, sq, h1⟩
  · obtain ⟨rfl, y⟩ := y
    obtain ⟨v, h1, h2⟩ := rr.get q
    have e2 := (y vs sq).symm.trans h1
    cases e2
    exact ⟨Same.refl _, h2.wider fun a h => .inl h⟩
theorem it_tup {K : PySem.W.Frag} (hK : K = G.K) {a : Addr} {ds : List D} : ItOk G (Itt K a) [(.ref a, .tup ds)] ds := by
  subst hK
  intro A H i hs
  have r := hs _ List.mem_cons_self
  obtain ⟨vs, e, sq, rr⟩ := r.tupSq
  refine ⟨fun hi => ?_, fun hi => ⟨vs, sq, by rw [rr.1, hi]; exact Nat.le_refl _⟩, fun x H' d y q => ?_⟩
  · obtain ⟨v, h1, _⟩ := rr.get (List.getElem?_eq_getElem hi)
    exact ⟨vs, v, sq, h1⟩
  · obtain ⟨rfl, y⟩ := y
    obtain ⟨v, h1, h2⟩ := rr.get q
    have e2 := (y vs sq).symm.trans h1
    cases e2
    exact ⟨Same.refl _, h2.wider fun a h => .inl h⟩
theorem it_frz {K : PySem.W.Frag} (hK : K = G.K) {a : Addr} {ns : List Int} : ItOk G (Itl K a) [(.ref a, .frz ns)] (ns.map D.int) := by
  subst hK
  intro A H i hs
  have r := hs _ List.mem_cons_self
  have sq := r.frzSq
  have rr : Reps G A H (ns.map V.int) (ns.map D.int) := reps_ints ns
  refine ⟨fun hi => ?_, fun hi => ⟨_, sq, by rw [rr.1, hi]; exact Nat.le_refl _⟩, fun x H' d y q => ?_⟩
  · obtain ⟨v, h1, _⟩ := rr.get (List.getElem?_eq_getElem hi)
    exact ⟨_, v, sq, h1⟩
  · obtain ⟨rfl, y⟩ := y
    obtain ⟨v, h1, h2⟩ := rr.get q
    have e2 := (y _ sq).symm.trans h1
    cases e2
    exact ⟨Same.refl _, h2.wider fun a h => .inl h⟩
theorem rng_length (lo hi : Int) : (Q.rng lo hi).length = (hi - lo).toNat := by simp [Q.rng]
theorem it_rng {lo : Int} {n : Nat} {ns : List Int} (h : ns = (List.range n).map fun (i : Nat) => lo + (i : Int)) : ItOk G (Itr lo n) [] (ns.map D.int) := by
  subst h
  intro A H i hs
  refine ⟨fun hi => (by simpa using hi : i < n), fun hi => (by simp at hi; omega : n ≤ i), fun x H' d y q => ?_⟩
  obtain ⟨rfl, rfl⟩ := y
  have hi : i < n := by
    have := (List.getElem?_eq_some_iff.mp q).1
    simpa using this
  rw [List.map_map, List.getElem?_map, List.getElem?_range hi] at q
  cases q
  exact ⟨Same.refl _, Rep.int _⟩
end
section
variable {X : Cx} {W : WX} {G : Cfg} {a b tg : Expr} {ea eb : Q.X} {p pos : Pos}
/-- over a list (or the script) -/
theorem q_ilst (hK : X.K = G.K) (ha : PE X a (tE G W ea)) : PI X tg a (tI G (Q.ilst ea)) :=
  (pi_list ha).conv fun σ H P ⟨fm, hs, env, E, acc⟩ => tE_in E (accI_bind (W := W) (σ := σ) acc) fun d c v H1 E1 s1 o1 acc1 => by
    have cl : ∀ ds, Rep G (Cold fm hs) H1 v (.lst ds) → AccI G fm hs H1 (RA.ok ds false) P → ∃ a, v = .ref a ∧ (∃ xs, SqL X.K H1 a xs) ∧ P (Itl X.K a) H1 := fun ds r acc2 => by
      obtain ⟨q, rfl⟩ := r.lst_inv
      obtain ⟨vs, e, sq, _⟩ := r.lstSq
      exact ⟨q, rfl, ⟨vs, hK ▸ sq⟩, acc2 _ [(.ref q, .lst ds)] H1 (Same.refl _) (fun s m => by simp at m; subst m; exact r) (it_list hK)⟩
    cases c with
    | hot => cases d <;> exact acc1.elim
    | taint => cases d <;> exact acc1.elim
    | cold =>
      cases d with
      | lst ds => exact cl ds o1 acc1
      | frz ns =>
        have r : Rep G (Cold fm hs) H1 v (.frz ns) := o1
        obtain ⟨q, rfl⟩ := r.frz_inv
        exact ⟨q, rfl, ⟨_, hK ▸ r.frzSq⟩, acc1 _ [(.ref q, .frz ns)] H1 (Same.refl _) (fun s m => by simp at m; subst m; exact r) (it_frz hK)⟩
      | _ => exact acc1.elim
    | fresh =>
      cases d with
      | lst ds => exact cl ds (o1.clean E rfl) acc1
      | _ => exact acc1.elim
/-- over a tuple -/
theorem q_itup (hK : X.K = G.K) (ha : PE X a (tE G W ea)) : PI X tg a (tI G (Q.itup ea)) :=
  (pi_tup ha).conv fun σ H P ⟨fm, hs, env, E, acc⟩ => tE_in E (accI_bind (W := W) (σ := σ) acc) fun d c v H1 E1 s1 o1 acc1 => by
    cases c with
    | cold =>
      cases d with
      | tup ds =>
        have r : Rep G (Cold fm hs) H1 v (.tup ds) := o1
        obtain ⟨q, rfl⟩ := r.tup_inv
        obtain ⟨vs, e, sq, _⟩ := r.tupSq
        exact ⟨q, rfl, ⟨vs, hK ▸ sq⟩, acc1 _ [(.ref q, .tup ds)] H1 (Same.refl _) (fun s m => by simp at m; subst m; exact r) (it_tup hK)⟩
      | _ => exact acc1.elim
    | _ => cases d <;> exact acc1.elim
theorem q_irng1 (hm : X.mg "range" = none) (ha : PE X a (tE G W ea)) (hg : Gl X "range" := by rfl) (hst : starEach [a] X.env = [(false, eval a X.env)] := by rfl)
    (he : starEach (a :: []) X.env = (false, eval a X.env) :: starEach [] X.env := by rfl) : PI X tg (.Call (.Name "range" p) [a] [] pos) (tI G (Q.irng1 ea)) :=
  (pi_range1 hg hm (pa_cons ha pa_nil he) hst).conv fun σ H P ⟨fm, hs, env, E, acc⟩ => tE_in E (accI_bind acc) fun d c v H1 E1 s1 o1 acc1 => by
    cases d with
    | int n =>
      cases (o1.anyR E)
      by_cases q : -Q.lim ≤ n ∧ n < Q.lim
      · simp only [if_pos q] at acc1
        refine ⟨n, rfl, q.1, q.2, acc1 _ [] H1 (Same.refl _) (fun s m => by simp at m) (it_rng ?_)⟩
        unfold Q.rng
        rw [Int.sub_zero]
      · simp only [if_neg q] at acc1; exact acc1.elim
    | _ => exact acc1.elim
theorem q_irng2 (hm : X.mg "range" = none) (ha : PE X a (tE G W ea)) (hb : PE X b (tE G W eb)) (hg : Gl X "range" := by rfl) (hst : starEach [a, b] X.env = [(false, eval a X.env), (false, eval b X.env)] := by rfl) (hst2 : starEach [b] X.env = [(false, eval b X.env)] := by rfl)
    (he : starEach (a :: [b]) X.env = (false, eval a X.env) :: starEach [b] X.env := by rfl) (he2 : starEach (b :: []) X.env = (false, eval b X.env) :: starEach [] X.env := by rfl) : PI X tg (.Call (.Name "range" p) [a, b] [] pos) (tI G (Q.irng2 ea eb)) :=
  (pi_range2 hg hm (pa_cons ha (pa_cons hb pa_nil he2) he) hst hst2).conv fun σ H P ⟨fm, hs, env, E, acc⟩ => tE_in E (accI_bind acc) fun d c v H1 E1 s1 o1 acc1 => by
    refine tE_in E1 (accI_bind acc1) fun d2 c2 v2 H2 E2 s2 o2 acc2 => ?_
    cases d with
    | int n =>
      cases d2 with
      | int m =>
        cases (o1.anyR E); cases (o2.anyR E1)
        by_cases q : (-Q.lim ≤ n ∧ n < Q.lim) ∧ -Q.lim ≤ m ∧ m < Q.lim
        · simp only [if_pos q] at acc2
          exact ⟨n, m, rfl, ⟨q.1.1, q.1.2, q.2.1, q.2.2⟩, acc2 _ [] H2 (Same.refl _) (fun s m => by simp at m) (it_rng rfl)⟩
        · simp only [if_neg q] at acc2; exact acc2.elim
      | _ => exact acc2.elim
    | _ => cases d2 <;> exact acc2.elim
end
/-! ### targets -/
def Pat.slots : Pat → List Nat
  | .nm i => [i]
  | .tp is => is
def Keeps (is : List Nat) (σ σ' : L2.St) : Prop := σ'.length = σ.length ∧ ∀ j, j ∉ is → σ'[j]? = σ[j]?
def tG (G : Cfg) (p : Pat) : TG := fun v σ H P => ∃ fm hs env ks d env', EnvOk G fm hs env ks σ H ∧ Rep G (Cold fm hs) H v d ∧ p.put d env = some env' ∧ ∀ σ', EnvOk G fm hs env' ks σ' H → Keeps (Pat.slots p) σ σ' → P σ' H
def tGs (G : Cfg) (is : List Nat) : TGs := fun vs σ H P => ∃ fm hs env ks ds env', EnvOk G fm hs env ks σ H ∧ Reps G (Cold fm hs) H vs ds ∧ Q.setMany is ds env = some env' ∧ ∀ σ', EnvOk G fm hs env' ks σ' H → Keeps is σ σ' → P σ' H
section
variable {G : Cfg} {fm : Fm} {hs : List Addr} {env : Q.Env} {ks : List (V × D)} {σ : L2.St} {H : Hp} {v : V} {d : D}
theorem get_set {α : Type} {l : List α} {i j : Nat} {x y : α} (h : (l.set i x)[j]? = some y) : (j = i ∧ i < l.length ∧ y = x) ∨ (j ≠ i ∧ l[j]? = some y) := by
  by_cases e : i = j
  · subst e
    have hi := (List.getElem?_eq_some_iff.mp h).1
    rw [List.length_set] at hi
    rw [List.getElem?_set_self hi] at h
    exact .inl ⟨rfl, hi, (Option.some.inj h).symm⟩
  · rw [List.getElem?_set_ne e] at h
    exact .inr ⟨fun q => e q.symm, h⟩
theorem EnvOk.setCold (E : EnvOk G fm hs env ks σ H) (r : Rep G (Cold fm hs) H v d) (i : Nat) : EnvOk G fm hs (env.set i (.cold d)) ks (σ.set i (some v)) H where
  ex := E.ex
  len := by rw [List.length_set, List.length_set, E.len]
  bor := E.bor
  ms0 := E.ms0
  msh := E.msh
  hn := E.hn
  slot := fun j s q => by
    rcases get_set q with ⟨rfl, hi, rfl⟩ | ⟨hne, q⟩
    · refine ⟨v, ?_, r⟩
      rw [List.getElem?_set_self (by rw [E.len]; exact hi)]
    · rw [List.getElem?_set_ne (fun z => hne z.symm)]
      exact E.slot j s q
  inj := fun j k s t p h1 h2 h3 h4 h5 h6 => by
    rcases get_set h1 with ⟨rfl, hi, rfl⟩ | ⟨n1, h1⟩
    · exact h3.elim
    · rcases get_set h2 with ⟨rfl, hi, rfl⟩ | ⟨n2, h2⟩
      · exact h4.elim
      · rw [List.getElem?_set_ne (fun z => n1 z.symm)] at h5
        rw [List.getElem?_set_ne (fun z => n2 z.symm)] at h6
        exact E.inj j k s t p h1 h2 h3 h4 h5 h6
  fr := E.fr
theorem Keeps.refl {is : List Nat} : Keeps is σ σ := ⟨rfl, fun _ _ => rfl⟩
theorem Keeps.set {i : Nat} {x : Option V} : Keeps [i] σ (σ.set i x) := ⟨List.length_set, fun j h => List.getElem?_set_ne (fun z => h (by simp [z]))⟩
variable {X : Cx} {pos : Pos}
theorem q_nm (i : Nat) {x : Str} (hN : X.N.Nodup) (hi : X.N[i]? = some x := by rfl) (hx : Loc X.env.scope x := by first | exact .inl rfl | exact .inr rfl)
    (hf : X.fn x = true ∨ X.env.scope.names.lookup x = some .local := by first | exact .inl rfl | exact .inr rfl) : PG X (.Name x pos) (tG G (.nm i)) :=
  (pg_name hN hi hx hf).conv fun v σ H P ⟨fm, hs, env, ks, d, env', E, r, q, k⟩ => by
    cases q
    exact k _ (E.setCold r i) Keeps.set
theorem q_gnil : PGs X [] (tGs G []) := ⟨fun pins s σ H vs us P I r h => pgs_nil.run pins s σ H vs us P I r (by
  obtain ⟨fm, hs, env, ks, ds, env', E, rr, q, k⟩ := h
  cases ds with
  | nil => cases q; exact ⟨rr.nil_iff.mpr rfl, k σ E Keeps.refl⟩
  | cons _ _ => cases q)⟩
theorem q_gcons {e : Expr} {es : List Expr} {i : Nat} {is : List Nat} (h1 : PG X e (tG G (.nm i))) (h2 : PGs X es (tGs G is))
    (hs : (assignEach (e :: es) X.env).map (·.2) = assign e X.env :: (assignEach es X.env).map (·.2) := by rfl) : PGs X (e :: es) (tGs G (i :: is)) :=
  ⟨fun pins s σ H vs us P I r h => (pgs_cons h1 h2 hs).run pins s σ H vs us P I r (by
    obtain ⟨fm, hs, env, ks, ds, env', E, rr, q, k⟩ := h
    cases ds with
    | nil => cases q
    | cons d ds =>
      cases vs with
      | nil => have := rr.1; simp at this
      | cons v vs =>
        refine ⟨v, vs, rfl, fm, hs, env, ks, d, _, E, rr.head, rfl, fun σ1 E1 k1 => ?_⟩
        refine ⟨fm, hs, _, ks, ds, env', E1, rr.tail, q, fun σ2 E2 k2 => k σ2 E2 ⟨k2.1.trans k1.1, fun j hj => ?_⟩⟩
        simp at hj
        rw [k2.2 j hj.2, k1.2 j (by simp [Pat.slots]; exact hj.1)])⟩
theorem setMany_length : ∀ {is : List Nat} {ds : List D} {e e' : Q.Env}, Q.setMany is ds e = some e' → ds.length = is.length
  | [], [], _, _, _ => rfl
  | [], _ :: _, _, _, h => by cases h
  | _ :: _, [], _, _, h => by cases h
  | _ :: is, _ :: ds, _, _, h => by simp [setMany_length (is := is) (ds := ds) h]
theorem q_tp {es : List Expr} {k : Nat} {is : List Nat} (hK : X.K = G.K) (hc : X.calm = true) (h : PGs X es (tGs G is))
    (hn : (assignEach es X.env).length = is.length := by rfl) (hst : (assignEach es X.env).findIdx? (·.1) = none := by rfl) : PG X (.Tuple es k pos) (tG G (.tp is)) :=
  (pg_tup hc h hn hst).conv fun v σ H P ⟨fm, hs, env, ks, d, env', E, r, q, k⟩ => by
    cases d with
    | tup ds =>
      obtain ⟨a, rfl⟩ := r.tup_inv
      obtain ⟨vs, _, sq, rr⟩ := r.tupSq
      exact ⟨a, vs, rfl, hK ▸ sq, by rw [rr.1]; exact setMany_length q, fm, hs, env, ks, ds, env', E, rr, q, k⟩
    | _ => cases q
end
/-! ### comprehensions -/
theorem wipe_get (σ : L2.St) : ∀ (vs : List Nat) (j : Nat), (wipe σ vs)[j]? = if j ∈ vs ∧ j < σ.length then some none else σ[j]?
  | [], j => by simp [wipe]
  | v :: vs, j => by
    rw [wipe]
    by_cases e : v = j
    · subst e
      by_cases h : v < σ.length
      · rw [List.getElem?_set_self (by rw [wipe_length]; exact h), if_pos ⟨List.mem_cons_self, h⟩]
      · rw [if_neg (fun z => h z.2), List.getElem?_eq_none (by rw [List.length_set, wipe_length]; omega), List.getElem?_eq_none (by omega)]
    · rw [List.getElem?_set_ne e, wipe_get σ vs j]
      have : (j ∈ v :: vs) = (j ∈ vs) := by simp [Ne.symm e]
      simp only [this]
theorem wipe_keeps {σ σ' : L2.St} {vs is : List Nat} (h : Keeps is (wipe σ vs) σ') (hs : ∀ i ∈ is, i ∈ vs) : wipe σ' vs = wipe σ vs := by
  apply List.ext_getElem?
  intro j
  have hl : σ'.length = σ.length := by rw [h.1, wipe_length]
  rw [wipe_get, wipe_get, hl]
  by_cases c : j ∈ vs ∧ j < σ.length
  · rw [if_pos c, if_pos c]
  · rw [if_neg c, if_neg c]
    by_cases m : j ∈ is
    · have : ¬ j < σ.length := fun z => c ⟨hs j m, z⟩
      rw [List.getElem?_eq_none (by omega), List.getElem?_eq_none (by omega)]
    · rw [h.2 j m, wipe_get, if_neg c]
theorem wipeE_get (e : Q.Env) : ∀ (vs : List Nat) (j : Nat), (Q.wipeE e vs)[j]? = if j ∈ vs ∧ j < e.length then some S.no else e[j]?
  | [], j => by simp [Q.wipeE]
  | v :: vs, j => by
    have hl : ∀ vs : List Nat, (Q.wipeE e vs).length = e.length := fun vs => by
      induction vs with
      | nil => rfl
      | cons v vs ih => rw [Q.wipeE, List.length_set, ih]
    rw [Q.wipeE]
    by_cases c : v = j
    · subst c
      by_cases h : v < e.length
      · rw [List.getElem?_set_self (by rw [hl]; exact h), if_pos ⟨List.mem_cons_self, h⟩]
      · rw [if_neg (fun z => h z.2), List.getElem?_eq_none (by rw [List.length_set, hl]; omega), List.getElem?_eq_none (by omega)]
    · rw [List.getElem?_set_ne c, wipeE_get e vs j]
      have : (j ∈ v :: vs) = (j ∈ vs) := by simp [Ne.symm c]
      simp only [this]
theorem wipeE_length (e : Q.Env) (vs : List Nat) : (Q.wipeE e vs).length = e.length := by
  induction vs with
  | nil => rfl
  | cons v vs ih => rw [Q.wipeE, List.length_set, ih]
section
variable {G : Cfg} {fm : Fm} {hs : List Addr} {env : Q.Env} {ks : List (V × D)} {σ : L2.St} {H : Hp} {v : V} {d : D}
theorem EnvOk.wipe (E : EnvOk G fm hs env ks σ H) (vs : List Nat) : EnvOk G fm hs (Q.wipeE env vs) ks (L2.wipe σ vs) H where
  ex := E.ex
  len := by rw [wipe_length, wipeE_length, E.len]
  bor := E.bor
  ms0 := E.ms0
  msh := E.msh
  hn := E.hn
  slot := fun j s q => by
    rw [wipeE_get] at q
    rw [wipe_get, E.len]
    split at q
    · cases q; trivial
    · rename_i c; rw [if_neg c]; exact E.slot j s q
  inj := fun j k s t p h1 h2 h3 h4 h5 h6 => by
    rw [wipeE_get] at h1 h2
    rw [wipe_get, E.len] at h5 h6
    split at h1
    · cases h1; exact h3.elim
    · rename_i c1
      split at h2
      · cases h2; exact h4.elim
      · rename_i c2
        rw [if_neg c1] at h5
        rw [if_neg c2] at h6
        exact E.inj j k s t p h1 h2 h3 h4 h5 h6
  fr := E.fr
theorem Rep.hide {p : Addr} (r : Rep G (Cold fm hs) H v d) (hp : H p = none) : Rep G (Cold fm (p :: hs)) H v d :=
  r.dom.wider fun a h => ⟨h.1.1, fun m => by
    rcases List.mem_cons.mp m with e | m
    · exact h.2 (e ▸ hp)
    · exact h.1.2 m⟩
theorem Reps.hide {p : Addr} {vs : List V} {ds : List D} (r : Reps G (Cold fm hs) H vs ds) (hp : H p = none) : Reps G (Cold fm (p :: hs)) H vs ds := ⟨r.1, fun i v d a b => Rep.hide (r.2 i v d a b) hp⟩
theorem RepX.hide {p : Addr} {cls : Value} {dd : Option Addr} {k : Nat} {fs : List D} (h : RepX G (Cold fm hs) (New fm hs) H cls dd k fs) (hp : H p = none) : RepX G (Cold fm (p :: hs)) (New fm (p :: hs)) H cls dd k fs := by
  obtain ⟨e, h⟩ := h
  refine ⟨e, ?_⟩
  rcases h with h | ⟨h0, a, fvs, h1, hn, h2, h3⟩
  · exact .inl h
  · refine .inr ⟨h0, a, fvs, h1, ⟨hn.1, fun m => ?_⟩, h2, fun i f d q r => ?_⟩
    · rcases List.mem_cons.mp m with z | z
      · rw [z, hp] at h2; cases h2
      · exact hn.2 z
    · obtain ⟨v, x, y⟩ := h3 i f d q r
      exact ⟨v, x, Rep.hide y hp⟩
/-- a new object that from now on is no longer cold -/
theorem EnvOk.hide {p : Addr} {o : HO} (E : EnvOk G fm hs env ks σ H) (hp : H p = none) : EnvOk G fm (p :: hs) env ks σ (upd H p o) where
  ex := (E.later (same_new hp)).ex
  len := E.len
  bor := E.bor
  ms0 := E.ms0
  msh := fun a m => List.mem_cons_of_mem _ (E.msh a m)
  hn := fun a m => by
    rcases List.mem_cons.mp m with rfl | m
    · exact ⟨.inr (E.newH0 hp), by rw [upd_same]; exact fun z => nomatch z⟩
    · exact ((E.later (same_new hp)).hn a m)
  slot := fun i s q => by
    have sl := E.slot i s q
    cases s with
    | no => trivial
    | cold d =>
      obtain ⟨v, a, b⟩ := sl
      exact ⟨v, a, (Rep.hide b hp).later (same_new hp)⟩
    | hot ds =>
      obtain ⟨q, vs, a, b, n, c, d⟩ := sl
      exact ⟨q, vs, a, List.mem_cons_of_mem _ b, n, same_new hp _ _ c, (Reps.hide d hp).later (same_new hp)⟩
    | hob k ds =>
      obtain ⟨q, dx, vs, a, b, n, c, d⟩ := sl
      exact ⟨q, dx, vs, a, List.mem_cons_of_mem _ b, n, same_new hp _ _ c, (Reps.hide d hp).later (same_new hp)⟩
    | slf k ds =>
      obtain ⟨q, dx, vs, a, b, n, c, d⟩ := sl
      exact ⟨q, dx, vs, a, List.mem_cons_of_mem _ b, n, same_new hp _ _ c, (Reps.hide d hp).later (same_new hp)⟩
    | bor d =>
      obtain ⟨v, a, b⟩ := sl
      exact ⟨v, a, b.later (same_new hp)⟩
    | exn k fs =>
      obtain ⟨a, cls, dd, b, c, r⟩ := sl
      exact ⟨a, cls, dd, b, c, (RepX.hide r hp).mono (same_new hp) (fun _ h => h) fun _ h => h⟩
  inj := E.inj
  fr := fun k m => (Rep.hide (E.fr k m) hp).later (same_new hp)
end
theorem cold_cons {fm : Fm} {hs : List Addr} {p : Addr} : ∀ a, Cold fm (p :: hs) a → Cold fm hs a ∧ a ≠ p := fun a h => ⟨⟨h.1, fun m => h.2 (List.mem_cons_of_mem _ m)⟩, fun e => h.2 (by simp [e])⟩
theorem EnvOk.notCold {fm : Fm} {hs : List Addr} {p : Addr} (h : p ∈ hs) : ¬ Cold fm hs p := fun c => c.2 h
theorem EnvOk.notBor {G : Cfg} {fm : Fm} {hs : List Addr} {env : Q.Env} {ks : List (V × D)} {σ : L2.St} {H : Hp} (E : EnvOk G fm hs env ks σ H) {p : Addr} (hp : p ∈ hs) : ¬ fm.B p := fun b => by
  obtain ⟨h1, h2⟩ := E.bor p b
  exact (E.hn p hp).1.elim h2 h1
theorem RepX.upd {G : Cfg} {fm : Fm} {hs : List Addr} {H : Hp} {p : Addr} {o : HO} {cls : Value} {dd : Option Addr} {k : Nat} {fs : List D} (h : RepX G (Cold fm hs) (New fm hs) H cls dd k fs) (hp : p ∈ hs) : RepX G (Cold fm hs) (New fm hs) (upd H p o) cls dd k fs := by
  obtain ⟨e, h⟩ := h
  refine ⟨e, ?_⟩
  rcases h with h | ⟨h0, a, fvs, h1, hn, h2, h3⟩
  · exact .inl h
  · have na : a ≠ p := fun z => hn.2 (z ▸ hp)
    refine .inr ⟨h0, a, fvs, h1, hn, by rw [upd_ne na]; exact h2, fun i f d q r => ?_⟩
    obtain ⟨v, x, y⟩ := h3 i f d q r
    exact ⟨v, x, y.upd (EnvOk.notCold hp)⟩
/-- a hot object that no slot holds is written -/
theorem EnvOk.write {G : Cfg} {fm : Fm} {hs : List Addr} {env : Q.Env} {ks : List (V × D)} {σ : L2.St} {H : Hp} (E : EnvOk G fm hs env ks σ H) {p : Addr} {o : HO} (hp : p ∈ hs)
    (nd : ∀ (i : Nat) s, env[i]? = some s → isHot s → σ[i]? ≠ some (some (.ref p))) : EnvOk G fm hs env ks σ (upd H p o) where
  ex := fun a u n h => by
    have na : a ≠ p := fun z => by
      subst z
      rcases (E.hn a hp).1 with m | m
      · exact n m
      · rw [h] at m; cases m
    rw [upd_ne na]
    exact E.ex a u n h
  len := E.len
  bor := E.bor
  ms0 := E.ms0
  msh := E.msh
  hn := fun a m => ⟨(E.hn a m).1, by
    by_cases z : a = p
    · subst z; rw [upd_same]; exact fun q => nomatch q
    · rw [upd_ne z]; exact (E.hn a m).2⟩
  slot := fun i s q => by
    have sl := E.slot i s q
    cases s with
    | no => trivial
    | cold d =>
      obtain ⟨v, a, b⟩ := sl
      exact ⟨v, a, b.upd (EnvOk.notCold hp)⟩
    | hot ds =>
      obtain ⟨q', vs, a, b, n, c, d⟩ := sl
      have nq : q' ≠ p := fun z => nd i _ q trivial (z ▸ a)
      exact ⟨q', vs, a, b, n, by rw [upd_ne nq]; exact c, d.upd (EnvOk.notCold hp)⟩
    | hob k ds =>
      obtain ⟨q', dx, vs, a, b, n, c, d⟩ := sl
      have nq : q' ≠ p := fun z => nd i _ q trivial (z ▸ a)
      exact ⟨q', dx, vs, a, b, n, by rw [upd_ne nq]; exact c, d.upd (EnvOk.notCold hp)⟩
    | slf k ds =>
      obtain ⟨q', dx, vs, a, b, n, c, d⟩ := sl
      have nq : q' ≠ p := fun z => nd i _ q trivial (z ▸ a)
      exact ⟨q', dx, vs, a, b, n, by rw [upd_ne nq]; exact c, d.upd (EnvOk.notCold hp)⟩
    | bor d =>
      obtain ⟨v, a, b⟩ := sl
      exact ⟨v, a, b.upd (E.notBor hp)⟩
    | exn k fs =>
      obtain ⟨a, cls, dd, b, c, r⟩ := sl
      exact ⟨a, cls, dd, b, c, RepX.upd r hp⟩
  inj := E.inj
  fr := fun k m => (E.fr k m).upd (EnvOk.notCold hp)
section
variable {X : Cx} {W : WX} {G : Cfg} {elt tg iter : Expr} {ifs : List Expr} {scope : Scope} {own : List (Str × Nat)} {pos : Pos} {ev : Q.XI} {p : Pat} {tt : Q.XB} {te : Q.X}
/-- nothing is let out of a block -/
def noW : WX := fun _ _ _ _ => False
theorem lc_reads {σ : L2.St} {H : Hp} {P : VK} (hsub : ∀ i ∈ Pat.slots p, i ∈ own.map (·.2)) (h : tE G W (Q.lc (own.map (·.2)) ev p tt te) σ H P) : tLc (tI G ev) (tG G p) (tT G noW tt) (tE G noW te) (own.map (·.2)) σ H P := by
  obtain ⟨fm, hs, env, E, acc⟩ := h
  have acc : AccR G W fm hs σ H (match ev env with
    | .ok ds _ => (match Q.lcLoop p tt te (Q.wipeE env (own.map (·.2))) ds [] with
      | some ys => R.ok (.lst ys) .fresh
      | none => R.bad)
    | _ => R.bad) fun _ _ v H' => P v H' := acc
  refine ⟨fm, hs, env, E, ?_⟩
  cases q : ev env with
  | exc k fs => rw [q] at acc; exact acc.elim
  | bad => rw [q] at acc; exact acc.elim
  | ok ds t =>
    rw [q] at acc
    simp only at acc
    intro J src H1 s1 hsrc ok D hD
    cases q2 : Q.lcLoop p tt te (Q.wipeE env (own.map (·.2))) ds [] with
    | none => rw [q2] at acc; exact acc.elim
    | some ys =>
      rw [q2] at acc
      have acc : ∀ v H', Same H H' → VOk G fm hs H H' v (.lst ys) .fresh → P v H' := acc
      have nd : ∀ (i : Nat) s, (Q.wipeE env (own.map (·.2)))[i]? = some s → isHot s → (wipe σ (own.map (·.2)))[i]? ≠ some (some (.ref D)) := fun i s h1 h2 h3 => by
        have sl := ((E.later s1).wipe (own.map (·.2))).slot i s h1
        cases s with
        | hot ds =>
          obtain ⟨q, vs, a, b, n, c, d⟩ := sl
          rw [h3] at a
          cases a
          rw [hD] at c
          cases c
        | hob k ds =>
          obtain ⟨q, dx, vs, a, b, n, c, d⟩ := sl
          rw [h3] at a
          cases a
          rw [hD] at c
          cases c
        | slf k ds =>
          obtain ⟨q, dx, vs, a, b, n, c, d⟩ := sl
          rw [h3] at a
          cases a
          rw [hD] at c
          cases c
        | _ => exact h2
      refine ⟨fun i m H' => i + m = ds.length ∧ ∃ vacc dacc, EnvOk G fm (D :: hs) (Q.wipeE env (own.map (·.2))) src (wipe σ (own.map (·.2))) H' ∧ Same H1 H' ∧ H' D = some (.lst vacc) ∧ Reps G (Cold fm (D :: hs)) H' vacc dacc ∧
        Q.lcLoop p tt te (Q.wipeE env (own.map (·.2))) (ds.drop i) dacc = some ys, ⟨ds.length, by omega, [], [], ?_, same_new hD, upd_same, Reps.nil, by simpa using q2⟩, ?_⟩
      · have E1 := (E.later s1).wipe (own.map (·.2))
        have E2 : EnvOk G fm hs (Q.wipeE env (own.map (·.2))) src (wipe σ (own.map (·.2))) H1 := { E1 with fr := hsrc }
        exact E2.hide hD
      · rintro i m H' ⟨him, vacc, dacc, E', s', hDv, rr, hl⟩
        obtain ⟨o1, o2, o3⟩ := ok (Cold fm (D :: hs)) H' i E'.fr
        by_cases hi : i < ds.length
        · right
          refine ⟨o1 hi, fun H'' => ∃ m', m' < m ∧ (i + 1) + m' = ds.length ∧ ∃ vacc dacc, EnvOk G fm (D :: hs) (Q.wipeE env (own.map (·.2))) src (wipe σ (own.map (·.2))) H'' ∧ Same H1 H'' ∧ H'' D = some (.lst vacc) ∧ Reps G (Cold fm (D :: hs)) H'' vacc dacc ∧
            Q.lcLoop p tt te (Q.wipeE env (own.map (·.2))) (ds.drop (i + 1)) dacc = some ys, fun H'' h => ?_, fun x H2 y => ?_⟩
          · obtain ⟨m', a, b, c⟩ := h
            exact ⟨m', a, b, c⟩
          · obtain ⟨s2, rx⟩ := o3 x H2 _ y (List.getElem?_eq_getElem hi)
            have E2 := E'.later s2
            have rx' : Rep G (Cold fm (D :: hs)) H2 x ds[i] := rx.wider fun a h => h.elim id fun h => E'.newCold h
            rw [List.drop_eq_getElem_cons hi, Q.lcLoop] at hl
            unfold Q.lcTurn at hl
            cases q3 : p.put ds[i] (Q.wipeE env (own.map (·.2))) with
            | none => rw [q3] at hl; cases hl
            | some e1 =>
              rw [q3] at hl
              refine ⟨fm, D :: hs, _, src, ds[i], e1, E2, rx', q3, fun σ2 E3 kp => ⟨wipe_keeps kp hsub, ?_⟩⟩
              cases q4 : tt e1 with
              | exc k fs => simp only [q4] at hl; cases hl
              | bad => simp only [q4] at hl; cases hl
              | ok b =>
                simp only [q4] at hl
                refine ⟨fm, D :: hs, e1, E3.drop, ?_⟩
                rw [q4]
                intro H3 s3
                cases b with
                | false =>
                  simp only at hl
                  rw [if_neg (by simp)]
                  exact ⟨m - 1, by omega, by omega, vacc, dacc, E2.later s3, (s'.trans s2).trans s3, s3 _ _ (s2 _ _ hDv), (rr.later s2).later s3, hl⟩
                | true =>
                  simp only at hl
                  rw [if_pos rfl]
                  refine ⟨fm, D :: hs, e1, (E3.later s3).drop, ?_⟩
                  cases q5 : te e1 with
                  | exc k fs => simp only [q5] at hl; cases hl
                  | bad => simp only [q5] at hl; cases hl
                  | ok y c =>
                    simp only [q5] at hl
                    intro v H4 s4 o4
                    by_cases hd : Q.dirty c y = true
                    · simp only [hd, if_true] at hl; cases hl
                    · simp only [hd] at hl
                      have hd' : Q.dirty c y = false := by simpa using hd
                      have ry := o4.clean (E3.later s3) hd'
                      by_cases hm : dacc.length < Q.most
                      · simp only [if_pos hm] at hl
                        have e4 : H4 D = some (.lst vacc) := s4 _ _ (s3 _ _ (s2 _ _ hDv))
                        refine ⟨vacc, e4, most_lt (by rw [rr.1]; exact hm), m - 1, by omega, by omega, vacc ++ [v], dacc ++ [y], ?_, ?_, upd_same, ?_, hl⟩
                        · have E4 := (E2.later s3).later s4
                          exact E4.write List.mem_cons_self nd
                        · intro a o e
                          have na : a ≠ D := fun z => by rw [z, hD] at e; cases e
                          rw [upd_ne na]
                          exact s4 _ _ (s3 _ _ (s2 _ _ (s' _ _ e)))
                        · have r4 := ((rr.later s2).later s3).later s4
                          exact ((r4.append (Reps.cons ry Reps.nil)).upd (EnvOk.notCold List.mem_cons_self))
                      · simp only [if_neg hm] at hl; cases hl
        · left
          have hi' : i = ds.length := by omega
          refine ⟨o2 hi', acc _ _ (s1.trans s') ?_⟩
          rw [hi', List.drop_length, Q.lcLoop] at hl
          cases hl
          refine .inl ⟨D, vacc, ys, rfl, rfl, s1.free hD, hDv, rr.mono (Same.refl _) cold_cons⟩
end
end QW

set_option Elab.async false
set_option linter.all false
set_option maxRecDepth 100000
set_option maxHeartbeats 4000000
namespace QW
open PySem PySem.Spec PyProof.Rows L2
open Q (D S R RA RB Ctl Cl Pat)
/-! ### comprehensions as expressions -/
section
variable {X : Cx} {W : WX} {G : Cfg} {elt tg iter : Expr} {ifs : List Expr} {scope : Scope} {own : List (Str × Nat)} {pos spos py : Pos} {ev : Q.XI} {p : Pat} {tt : Q.XB} {te : Q.X} {vs : List Nat}
theorem q_ptsnil : PTs X [] (tT G W Q.tyes) := ⟨fun pins s σ H P I ⟨fm, hs, env, E, acc⟩ => pts_nil.run pins s σ H P I (acc H (Same.refl _))⟩
theorem q_lc (hc : X.calm = true) (hN : X.N.Nodup) (hi : PI X tg iter (tI G ev)) (ok : BlkOk X.N X.env.scope scope own)
    (hg : ∀ (s : Shared) (H : Hp) (C : Addr) (cl : List (Str × Addr)) (fp : List Addr), PG (X.blk s H scope (compEnvC scope cl C X.env) fp) tg (tG G p))
    (ht : ∀ (s : Shared) (H : Hp) (C : Addr) (cl : List (Str × Addr)) (fp : List Addr), PTs (X.blk s H scope (compEnvC scope cl C X.env) fp) ifs (tT G noW tt))
    (he : ∀ (s : Shared) (H : Hp) (C : Addr) (cl : List (Str × Addr)) (fp : List Addr), PE (X.blk s H scope (compEnvC scope cl C X.env) fp) elt (tE G noW te))
    (hvs : own.map (·.2) = vs := by rfl) (hsub : ∀ i ∈ Pat.slots p, i ∈ vs := by decide) (hs : ∀ x, foldedSetIterable iter X.env x = pure x := by intro _; rfl) :
    PE X (.ListComp elt [⟨tg, iter, ifs, 0⟩] scope pos) (tE G W (Q.lc vs ev p tt te)) := by
  subst hvs
  exact (pe_lc hc hN hi ok hg ht he hs).conv fun σ H P h => lc_reads hsub h
end
/-! ### calls -/
def RtOk (G : Cfg) (A : Reg) (H H' : Hp) (v : V) (d : D) : Cl → Prop
  | .fresh => (∃ p vs ds, v = .ref p ∧ d = .lst ds ∧ H p = none ∧ H' p = some (.lst vs) ∧ Reps G (fun a => (A a ∨ H a = none) ∧ a ≠ p) H' vs ds) ∨
      ∃ p dx vs c ds, v = .ref p ∧ d = .obj c ds ∧ H p = none ∧ H' p = some (.ins (G.cls c) dx ((G.names c).zip vs)) ∧ Reps G (fun a => (A a ∨ H a = none) ∧ a ≠ p) H' vs ds
  | _ => Rep G (fun a => A a ∨ H a = none) H' v d
/-- the promise of a def that comes to g -/
def spT (G : Cfg) (n : Nat) (g : List D → R) : Sp := fun vs H P E => ∃ (A : Reg) (ds : List D), vs.length = n ∧ Reps G A H vs ds ∧ (match g ds with
  | .ok d c => ∀ v H', Same H H' → RtOk G A H H' v d c → P v H'
  | .exc k fs => ∀ cls dd H', Same H H' → RepX G (fun a => A a ∨ H a = none) (fun a => H a = none) H' cls dd k fs → E cls dd H'
  | .bad => False)
/-- .. of an __init__ of the class c; keep: whether arguments may be kept -/
def spI (G : Cfg) (c n : Nat) (keep : Bool) (g : List D → R) : Sp := fun vs H P E => ∃ (x dx : Addr) (ws : List V) (A : Reg) (ds : List D), vs = .ref x :: ws ∧ ws.length = n ∧ H x = some (.ins (G.cls c) dx []) ∧ ¬ A x ∧ (∀ a, A a → H a ≠ none) ∧ Reps G A H ws ds ∧ (match g ds with
  | .ok d _ => ∃ fs, d = .obj c fs ∧ ∀ H' dx' vs', (∀ a o, a ≠ x → H a = some o → H' a = some o) → H' x = some (.ins (G.cls c) dx' ((G.names c).zip vs')) → Reps G (fun a => ((keep = true ∧ A a) ∨ H a = none) ∧ a ≠ x) H' vs' fs → P .non H'
  | .exc k fs => ∀ cls dd H', (∀ a o, a ≠ x → H a = some o → H' a = some o) → RepX G (fun a => A a ∨ H a = none) (fun a => H a = none) H' cls dd k fs → E cls dd H'
  | .bad => False)
theorem spT_len {G : Cfg} {n : Nat} {g : List D → R} {vs : List V} {H : Hp} {P : VK} {E : XK} (h : spT G n g vs H P E) : vs.length = n := by
  obtain ⟨_, _, h, _⟩ := h
  exact h
theorem spI_len {G : Cfg} {c n : Nat} {keep : Bool} {g : List D → R} {vs : List V} {H : Hp} {P : VK} {E : XK} (h : spI G c n keep g vs H P E) : vs.length = n + 1 := by
  obtain ⟨_, _, _, _, _, rfl, h, _⟩ := h
  rw [List.length_cons, h]
theorem flat_rep {G : Cfg} {A B : Reg} {H H' : Hp} {v : V} {ds : List D} {vs : List V} (r : Reps G A H vs ds) (f : (D.lst ds).flat = true) : Reps G B H' vs ds := r.scalars f
section
variable {G : Cfg} {W : WX} {fm : Fm} {hs : List Addr} {env : Q.Env} {ks : List (V × D)} {σ : L2.St} {H : Hp} {vs : List V} {ds : List D} {t : Bool}
theorem RepX.scalars {A B N N' : Reg} {cls : Value} {dd : Option Addr} {k : Nat} {fs : List D} (h : RepX G A N H cls dd k fs) (s : fs.all Q.D.scalar = true) (n : ∀ a, N a → N' a) : RepX G B N' H cls dd k fs := by
  obtain ⟨e, h⟩ := h
  refine ⟨e, ?_⟩
  rcases h with h | ⟨h0, a, fvs, h1, hn, h2, h3⟩
  · exact .inl h
  · refine .inr ⟨h0, a, fvs, h1, n _ hn, h2, fun i f d q r => ?_⟩
    obtain ⟨v, x, y⟩ := h3 i f d q r
    exact ⟨v, x, y.scalar (List.all_eq_true.mp s d (List.mem_of_getElem? r))⟩
/-- a call's end: what the callee gives back, as the caller holds it -/
theorem post_ok {A : Reg} {H' : Hp} {v : V} {d : D} {c : Cl} (E : EnvOk G fm hs env ks σ H) (hA : ∀ a, A a → Cold fm hs a ∨ (t = true ∧ TR fm hs a)) (r : RtOk G A H H' v d c) : VOk G fm hs H H' v d (Q.post t d c) := by
  cases t with
  | false =>
    have m : ∀ a, (A a ∨ H a = none) → Cold fm hs a := fun a h => h.elim (fun h => (hA a h).elim id fun z => by cases z.1) E.newCold
    cases c with
    | fresh =>
      rcases r with ⟨p, vs, ds, a, b, c, d, e⟩ | ⟨p, dx, vs, k, ds, a, b, c, d, e⟩
      · exact .inl ⟨p, vs, ds, a, b, c, d, e.mono (Same.refl _) fun a h => ⟨m a h.1, h.2⟩⟩
      · exact .inr ⟨p, dx, vs, k, ds, a, b, c, d, e.mono (Same.refl _) fun a h => ⟨m a h.1, h.2⟩⟩
    | cold => exact Rep.wider r m
    | hot => exact Rep.wider r m
    | taint => exact Rep.wider r m
  | true =>
    have m : ∀ a, (A a ∨ H a = none) → TR fm hs a := fun a h => h.elim (fun h => (hA a h).elim (fun z => .inl z.1) fun z => z.2) fun h => .inl (E.newCold h).1
    have other : Rep G (fun a => A a ∨ H a = none) H' v d → VOk G fm hs H H' v d (if d.scalar = true then .cold else .taint) := fun r => by
      by_cases s : d.scalar = true
      · simp only [if_pos s]; exact Rep.scalar r s
      · simp only [if_neg s]; exact Rep.wider r m
    cases c with
    | fresh =>
      show VOk G fm hs H H' v d (if d.flat = true then .fresh else .taint)
      rcases r with ⟨p, vs, ds, rfl, rfl, c, d, e⟩ | ⟨p, dx, vs, k, ds, rfl, rfl, c, d, e⟩
      · by_cases f : (D.lst ds).flat = true
        · simp only [if_pos f]
          exact .inl ⟨p, vs, ds, rfl, rfl, c, d, e.scalars f⟩
        · simp only [if_neg f]
          exact Rep.lst (.inl (E.newCold c).1) d e.1 fun i v d a b => (e.2 i v d a b).wider fun a h => m a h.1
      · rw [if_neg (by simp [Q.D.flat, Q.D.scalar])]
        exact Rep.obj (.inl (E.newCold c).1) d e.1 fun i v d a b => (e.2 i v d a b).wider fun a h => m a h.1
    | cold => exact other r
    | hot => exact other r
    | taint => exact other r
theorem spT_of {n : Nat} {g : List D → R} {P : VK} (E : EnvOk G fm hs env ks σ H) (r : Reps G (fun a => Cold fm hs a ∨ (t = true ∧ TR fm hs a)) H vs ds)
    (acc : AccR G W fm hs σ H (if ds.length = n then Q.ended t (g ds) else .bad) fun _ _ v H' => P v H') : spT G n g vs H P (fun cls d H' => W cls d σ H') := by
  by_cases hn : ds.length = n
  · rw [if_pos hn] at acc
    refine ⟨_, ds, by rw [r.1]; exact hn, r, ?_⟩
    cases q : g ds with
    | ok d c =>
      rw [q] at acc
      exact fun v H' s k => acc v H' s (post_ok E (fun a h => h) k)
    | exc k fs =>
      rw [q] at acc
      intro cls dd H' s x
      cases t with
      | false =>
        have acc : ∀ cls dd H', Same H H' → RepX G (Cold fm hs) (New fm hs) H' cls dd k fs → W cls dd σ H' := acc
        exact acc cls dd H' s (x.mono (Same.refl _) (fun a h => h.elim (fun h => h.elim id fun z => by cases z.1) E.newCold) fun _ => E.newNew)
      | true =>
        by_cases sc : fs.all Q.D.scalar = true
        · have e : Q.ended true (.exc k fs) = .exc k fs := by
            show (if (true && !fs.all Q.D.scalar) = true then R.bad else .exc k fs) = _
            rw [sc]; rfl
          rw [e] at acc
          exact acc cls dd H' s (x.scalars sc fun _ => E.newNew)
        · have e : Q.ended true (.exc k fs) = .bad := by
            show (if (true && !fs.all Q.D.scalar) = true then R.bad else .exc k fs) = _
            rw [if_pos (by simp only [Bool.true_and, Bool.not_eq_true']; simpa using sc)]
          rw [e] at acc
          exact acc.elim
    | bad => rw [q] at acc; exact acc
  · rw [if_neg hn] at acc
    exact acc.elim
end
section
variable {X : Cx} {W : WX} {G : Cfg} {k n : Nat} {f : Addr} {fd : FuncData} {ps : List Str} {g : List D → R} {x m : Str} {p pos apos : Pos} {e o : Expr} {es : List Expr} {ea : Q.XA} {eo : Q.X}
theorem q_call (F : FnOk X.prog X.w X.K X.mg X.base (L2.CX X.prog X.w) k f fd ps (spT G n g)) (hr : Room k X.A) (hm : X.mg x = some (.ref f)) (hk : PySem.W.keepIn X.K (.ref f) = true) (hb : Binds X.K fd ps []) (tk : Takes X W)
    (ha : PA X (e :: es) (tA G W ea)) (hg : Gl X x := by rfl) (hdb : (x == ("__debug__" : Str)) = false := by decide) (he : starEach (e :: es) X.env = (false, eval e X.env) :: starEach es X.env := by rfl) (hpl : (backTo pos (starEach es X.env)).any (·.1) = false := by rfl) :
    PE X (.Call (.Name x p) (e :: es) [] pos) (tE G W (Q.call n g ea)) :=
  (pe_callS F hr hg hm hk hb (fun σ => passAt tk σ) ha hdb he hpl).conv fun σ H P ⟨fm, hs, env, E, acc⟩ => tA_in E (accA_bind acc) fun ds t vs H1 E1 s1 r1 acc1 => spT_of E1 r1 acc1
/-- with defaults behind -/
theorem q_callD {dvs : List V} {dl : List D} {us : List Value} (F : FnOk X.prog X.w X.K X.mg X.base (L2.CX X.prog X.w) k f fd ps (spT G n g)) (hr : Room k X.A) (hm : X.mg x = some (.ref f)) (hk : PySem.W.keepIn X.K (.ref f) = true) (hb : Binds X.K fd ps us) (hd : Vals dvs us) (hdl : dl.map conV = dvs.map some) (tk : Takes X W)
    (ha : PA X (e :: es) (tA G W ea)) (hg : Gl X x := by rfl) (hdb : (x == ("__debug__" : Str)) = false := by decide) (he : starEach (e :: es) X.env = (false, eval e X.env) :: starEach es X.env := by rfl) (hpl : (backTo pos (starEach es X.env)).any (·.1) = false := by rfl) :
    PE X (.Call (.Name x p) (e :: es) [] pos) (tE G W (Q.call (n - dl.length) (fun ds => if dl.length ≤ n then g (ds ++ dl) else .bad) ea)) :=
  (pe_callSD F hr hg hm hk hb hd (fun σ => passAt tk σ) ha hdb he hpl).conv fun σ H P ⟨fm, hs, env, E, acc⟩ => tA_in E (accA_bind acc) fun ds t vs H1 E1 s1 r1 acc1 => by
    have rd : ∀ (A : Reg), Reps G A H1 dvs dl := fun A => by
      have hl : dl.length = dvs.length := by have := congrArg List.length hdl; simpa using this
      refine ⟨hl.symm, fun i v d a b => ?_⟩
      have e1 : (dl.map conV)[i]? = some (conV d) := by rw [List.getElem?_map, b]; rfl
      rw [hdl, List.getElem?_map, a] at e1
      exact conV_rep (Option.some.inj e1).symm
    by_cases hn : ds.length = n - dl.length
    · rw [if_pos hn] at acc1
      by_cases hn2 : dl.length ≤ n
      · refine spT_of (t := t) (ds := ds ++ dl) E1 (r1.append (rd _)) ?_
        rw [if_pos (by rw [List.length_append]; omega)]
        simp only [if_pos hn2] at acc1
        exact acc1
      · simp only [if_neg hn2] at acc1
        exact acc1.elim
    · rw [if_neg hn] at acc1
      exact acc1.elim
/-- o.m(..) of an instance of the class at C, what is raised wished for at the slots -/
def tMethW (C : Addr) (m : Str) (sp : Sp) (W : WX) (ta : TE) (t : TA) : TE := fun σ H P => ta σ H fun x H1 => ∃ a dx fs, x = .ref a ∧ H1 a = some (.ins C dx fs) ∧ fs.lookup m = none ∧
  t σ H1 fun vs H2 => sp (x :: vs) H2 P (fun cls d H' => W cls d σ H')
theorem pe_methW {C : Addr} {sp : Sp} {pl : Sem Bool} {ta : TE} {t : TA} (he : PE X o ta) (c : Cls X.K C) (hm : Meth X.K C m f) (F : FnOk X.prog X.w X.K X.mg X.base (L2.CX X.prog X.w) k f fd ps sp) (hr : Room k X.A) (hb : Binds X.K fd ps []) (tk : Takes X W) (ha : PA X (e :: es) t)
    (hst : starEach (e :: es) X.env = (false, eval e X.env) :: starEach es X.env) (hpl : (backTo pos (starEach es X.env)).any (·.1) = false)
    (ht : eval (.Call (.Attribute o m apos) (e :: es) [] pos) X.env = (eval o X.env >>= fun ov => standAt apos.atName >>= fun _ => holding [ov] (getMethod ov m pl) >>= fun x =>
      callWith pos x.1 x.2 (backTo pos (starEach (e :: es) X.env)) (backToKw pos (keywordEach [] X.env)))) :
    PE X (.Call (.Attribute o m apos) (e :: es) [] pos) (tMethW C m sp W ta t) := by
  refine ⟨fun pins s σ H P I h => PySem.W.methodCall_KW (pl := pl) (thn (he.run pins s σ H _ I h) fun u s1 hh => ?_) ht⟩
  obtain ⟨x, H1, I1, rx, a, dx, fs, rfl, ea, l, q⟩ := hh
  cases (show u = Value.ref a from rx)
  refine getmeth_ok I1 ea c hm l (PySem.W.callWith_K (first := [.ref a]) (h₀ := X.base) I.ok.mod.kin hm.kp (thn (ha.run pos pins s1 σ H1 _ I1 q) fun us s2 h2 => ?_) hst hpl)
  obtain ⟨vs, H2, I2, r, q2⟩ := h2
  exact ⟨I2.kIn, run_fnS (E := WE W) (us := .ref a :: us) (vs := .ref a :: vs) F hr hb (passAt tk σ) I2 (.cons rfl r) q2⟩
theorem pe_methW0 {C : Addr} {sp : Sp} {pl : Sem Bool} {ta : TE} (he : PE X o ta) (c : Cls X.K C) (hm : Meth X.K C m f) (F : FnOk X.prog X.w X.K X.mg X.base (L2.CX X.prog X.w) k f fd ps sp) (hr : Room k X.A) (hb : Binds X.K fd ps []) (tk : Takes X W)
    (ht : eval (.Call (.Attribute o m apos) [] [] pos) X.env = (eval o X.env >>= fun ov => standAt apos.atName >>= fun _ => holding [ov] (getMethod ov m pl) >>= fun x =>
      callWith pos x.1 x.2 (backTo pos (starEach [] X.env)) (backToKw pos (keywordEach [] X.env)))) :
    PE X (.Call (.Attribute o m apos) [] [] pos) (tMethW C m sp W ta tNil) := by
  refine ⟨fun pins s σ H P I h => PySem.W.methodCall_KW (pl := pl) (thn (he.run pins s σ H _ I h) fun u s1 hh => ?_) ht⟩
  obtain ⟨x, H1, I1, rx, a, dx, fs, rfl, ea, l, q⟩ := hh
  cases (show u = Value.ref a from rx)
  refine getmeth_ok I1 ea c hm l (PySem.W.callWith_K0 (first := [.ref a]) I1.kIn hm.kp ?_)
  exact run_fnS (E := WE W) (us := [.ref a]) (vs := [.ref a]) F hr hb (passAt tk σ) I1 (.cons rfl .nil) q
end
/-! ### the fields by their places -/
theorem zip_look : ∀ {ns : List Str} {vs : List V} {k : Nat} {f : Str} {v : V}, ns.Nodup → ns[k]? = some f → vs[k]? = some v → (ns.zip vs).lookup f = some v
  | [], _, _, _, _, _, h, _ => by simp at h
  | _ :: _, [], _, _, _, _, _, h => by simp at h
  | n :: ns, w :: vs, 0, f, v, _, h1, h2 => by
    simp at h1 h2
    subst h1 h2
    simp [List.lookup]
  | n :: ns, w :: vs, k + 1, f, v, hn, h1, h2 => by
    have h1' : ns[k]? = some f := by simpa using h1
    have h2' : vs[k]? = some v := by simpa using h2
    have hf : f ∈ ns := List.mem_of_getElem? h1'
    have hne : f ≠ n := fun e => (List.nodup_cons.mp hn).1 (e ▸ hf)
    have hb : (f == n) = false := by simpa using hne
    rw [List.zip_cons_cons, List.lookup, hb]
    exact zip_look (List.nodup_cons.mp hn).2 h1' h2'
theorem zip_none : ∀ {ns : List Str} {vs : List V} {f : Str}, f ∉ ns → (ns.zip vs).lookup f = none
  | [], _, _, _ => rfl
  | _ :: _, [], _, _ => rfl
  | n :: ns, w :: vs, f, h => by
    have hb : (f == n) = false := by simp at h; simpa using h.1
    rw [List.zip_cons_cons, List.lookup, hb]
    exact zip_none (by simp at h; exact h.2)
theorem putF_set : ∀ {ns : List Str} {vs : List V} {k : Nat} {f : Str} {v : V}, ns.Nodup → ns[k]? = some f → k < vs.length → putF f v (ns.zip vs) = ns.zip (vs.set k v)
  | [], _, _, _, _, _, h, _ => by simp at h
  | _ :: _, [], _, _, _, _, _, h => by simp at h
  | n :: ns, w :: vs, 0, f, v, _, h1, h2 => by
    simp at h1
    subst h1
    simp [putF]
  | n :: ns, w :: vs, k + 1, f, v, hn, h1, h2 => by
    have h1' : ns[k]? = some f := by simpa using h1
    have hne : n ≠ f := fun e => (List.nodup_cons.mp hn).1 (e ▸ List.mem_of_getElem? h1')
    rw [List.zip_cons_cons, putF, if_neg hne, putF_set (List.nodup_cons.mp hn).2 h1' (by simpa using h2), List.set_cons_succ, List.zip_cons_cons]
theorem putF_app : ∀ {ns : List Str} {vs : List V} {f : Str} {v : V}, ns.Nodup → ns[vs.length]? = some f → putF f v (ns.zip vs) = ns.zip (vs ++ [v])
  | [], _, _, _, _, h => by simp at h
  | n :: ns, [], f, v, _, h => by
    simp at h
    subst h
    simp [putF]
  | n :: ns, w :: vs, f, v, hn, h1 => by
    have h1' : ns[vs.length]? = some f := by simpa using h1
    have hne : n ≠ f := fun e => (List.nodup_cons.mp hn).1 (e ▸ List.mem_of_getElem? h1')
    rw [List.zip_cons_cons, putF, if_neg hne, putF_app (List.nodup_cons.mp hn).2 h1', List.cons_append, List.zip_cons_cons]
/-- what the text and K tell of the class with the tag c -/
structure ClsOk (G : Cfg) (c : Nat) : Prop where
  cl : Cls G.K (G.cls c)
  nd : (G.names c).Nodup
  no : ∀ f ∈ G.names c, NoAttr G.K (G.cls c) f
  few : (G.names c).length < 1000
section
variable {X : Cx} {W : WX} {G : Cfg} {k n c : Nat} {f : Addr} {fd : FuncData} {ps : List Str} {g : List D → R} {x m : Str} {p pos apos : Pos} {e o a b : Expr} {es : List Expr} {ea : Q.XA} {eo ex ey : Q.X}
theorem q_orx (ha : PE X a (tE G W ex)) (hb : PE X a (tE G W ey)) : PE X a (tE G W (Q.orx ex ey)) :=
  ⟨fun pins s σ H P I h => by
    obtain ⟨fm, hs, env, E, acc⟩ := h
    have e : Q.orx ex ey env = (match ex env with
      | .bad => ey env
      | r => r) := rfl
    rw [e] at acc
    cases q : ex env with
    | bad => rw [q] at acc; exact hb.run pins s σ H P I ⟨fm, hs, env, E, acc⟩
    | ok d c => rw [q] at acc; exact ha.run pins s σ H P I ⟨fm, hs, env, E, by rw [q]; exact acc⟩
    | exc k fs => rw [q] at acc; exact ha.run pins s σ H P I ⟨fm, hs, env, E, by rw [q]; exact acc⟩⟩
theorem q_fld {i : Nat} {nm : Str} (hK : X.K = G.K) (C : ClsOk G c) (he : PE X o (tE G W eo)) (hi : (G.names c)[i]? = some nm := by rfl) (hb : attributeBase o nm X.env (eval o X.env) = eval o X.env := by rfl) :
    PE X (.Attribute o nm pos) (tE G W (Q.fld c i eo)) :=
  (pe_fld he hb).conv fun σ H P ⟨fm, hs, env, E, acc⟩ => tE_in E (acc_bind acc) fun d cl v H1 E1 s1 o1 acc1 => by
    cases d with
    | obj q fs =>
      by_cases hq : q = c
      · subst hq
        simp only [if_true] at acc1
        cases z : fs[i]? with
        | none => rw [z] at acc1; exact acc1.elim
        | some y =>
          rw [z] at acc1
          obtain ⟨a, dx, vs, rfl, e, r⟩ := o1.obj
          obtain ⟨w, h1, h2⟩ := r.get z
          exact ⟨a, _, dx, _, w, rfl, e, hK ▸ C.cl, hK ▸ C.no _ (List.mem_of_getElem? hi), zip_look C.nd hi h1, acc1 w H1 (Same.refl _) (part_ok h2)⟩
      · simp only [if_neg hq] at acc1
        exact acc1.elim
    | _ => exact acc1.elim
theorem meth_of {N : Nat} {H1 H2 : Hp} {fm : Fm} {hs : List Addr} {env : Q.Env} {σ : L2.St} {H : Hp} {v : V} {fs : List D} {cl : Cl} {t : Bool} {ds : List D} {vs : List V} {P : VK} (E : EnvOk G fm hs env [] σ H) (s1 : Same H H1) (o1 : VOk G fm hs H H1 v (.obj c fs) cl) (s2 : Same H1 H2)
    (r2 : Reps G (fun a => Cold fm hs a ∨ (t = true ∧ TR fm hs a)) H2 vs ds)
    (acc : AccR G W fm hs σ H2 (if ds.length = N then Q.ended (Q.dirty cl (.obj c fs) || t) (g (.obj c fs :: ds)) else .bad) fun _ _ v H' => P v H') : spT G (N + 1) g (v :: vs) H2 P (fun cls d H' => W cls d σ H') := by
  have E2 := (E.later s1).later s2
  by_cases hn : ds.length = N
  · rw [if_pos hn] at acc
    refine spT_of (t := Q.dirty cl (.obj c fs) || t) (ds := .obj c fs :: ds) E2 (Reps.cons ?_ (r2.mono (Same.refl _) fun a h => ?_)) (by rw [List.length_cons, if_pos (by rw [hn])]; exact acc)
    · cases hd : Q.dirty cl (.obj c fs) with
      | false => exact ((o1.clean E hd).later s2).wider fun a h => .inl h
      | true => exact ((o1.anyR E).later s2).wider fun a h => .inr ⟨by simp, h⟩
    · rcases h with h | ⟨ht, h⟩
      · exact .inl h
      · exact .inr ⟨by simp [ht], h⟩
  · rw [if_neg hn] at acc
    exact acc.elim
theorem q_meth {pl : Sem Bool} (hK : X.K = G.K) (C : ClsOk G c) (he : PE X o (tE G W eo)) (hm : Meth X.K (G.cls c) m f) (F : FnOk X.prog X.w X.K X.mg X.base (L2.CX X.prog X.w) k f fd ps (spT G (n + 1) g)) (hr : Room k X.A) (hb : Binds X.K fd ps []) (tk : Takes X W)
    (ha : PA X (e :: es) (tA G W ea)) (hnm : m ∉ G.names c := by decide)
    (hst : starEach (e :: es) X.env = (false, eval e X.env) :: starEach es X.env := by rfl) (hpl : (backTo pos (starEach es X.env)).any (·.1) = false := by rfl)
    (ht : eval (.Call (.Attribute o m apos) (e :: es) [] pos) X.env = (eval o X.env >>= fun ov => standAt apos.atName >>= fun _ => holding [ov] (getMethod ov m pl) >>= fun x =>
      callWith pos x.1 x.2 (backTo pos (starEach (e :: es) X.env)) (backToKw pos (keywordEach [] X.env))) := by rfl) :
    PE X (.Call (.Attribute o m apos) (e :: es) [] pos) (tE G W (Q.meth c n g eo ea)) :=
  (pe_methW he (hK ▸ C.cl) hm F hr hb tk ha hst hpl ht).conv fun σ H P ⟨fm, hs, env, E, acc⟩ => tE_in E (acc_bind acc) fun d cl v H1 E1 s1 o1 acc1 => by
    cases d with
    | obj q fs =>
      by_cases hq : q = c
      · subst hq
        simp only [if_true] at acc1
        obtain ⟨a, dx, vs, rfl, e, r⟩ := o1.obj
        exact ⟨a, dx, _, rfl, e, zip_none hnm, tA_in E1 (accA_bind acc1) fun ds t vs H2 E2 s2 r2 acc2 => meth_of E s1 o1 s2 r2 acc2⟩
      · simp only [if_neg hq] at acc1
        exact acc1.elim
    | _ => exact acc1.elim
theorem q_meth0 {pl : Sem Bool} (hK : X.K = G.K) (C : ClsOk G c) (he : PE X o (tE G W eo)) (hm : Meth X.K (G.cls c) m f) (F : FnOk X.prog X.w X.K X.mg X.base (L2.CX X.prog X.w) k f fd ps (spT G 1 g)) (hr : Room k X.A) (hb : Binds X.K fd ps []) (tk : Takes X W) (hnm : m ∉ G.names c := by decide)
    (ht : eval (.Call (.Attribute o m apos) [] [] pos) X.env = (eval o X.env >>= fun ov => standAt apos.atName >>= fun _ => holding [ov] (getMethod ov m pl) >>= fun x =>
      callWith pos x.1 x.2 (backTo pos (starEach [] X.env)) (backToKw pos (keywordEach [] X.env))) := by rfl) :
    PE X (.Call (.Attribute o m apos) [] [] pos) (tE G W (Q.meth c 0 g eo Q.anil)) :=
  (pe_methW0 he (hK ▸ C.cl) hm F hr hb tk ht).conv fun σ H P ⟨fm, hs, env, E, acc⟩ => tE_in E (acc_bind acc) fun d cl v H1 E1 s1 o1 acc1 => by
    cases d with
    | obj q fs =>
      by_cases hq : q = c
      · subst hq
        simp only [if_true] at acc1
        obtain ⟨a, dx, vs, rfl, e, r⟩ := o1.obj
        exact ⟨a, dx, _, rfl, e, zip_none hnm, meth_of (t := false) (ds := []) (vs := []) E s1 o1 (Same.refl _) Reps.nil acc1⟩
      · simp only [if_neg hq] at acc1
        exact acc1.elim
    | _ => exact acc1.elim
end
/-! ### C(..) -/
def tMakeW (C : Addr) (sp : Sp) (W : WX) (t : TA) : TE := fun σ H P => t σ H fun vs H1 => ∀ x dx, H1 x = none → H1 dx = none → dx ≠ x →
  sp (.ref x :: vs) (L2.upd (L2.upd H1 dx (.own x)) x (.ins C dx [])) (fun v H2 => v = .non ∧ P (.ref x) H2) (fun cls d H' => W cls d σ H')
section
variable {X : Cx} {W : WX} {G : Cfg} {k n c : Nat} {C f : Addr} {fd : FuncData} {ps : List Str} {sp : Sp} {g : List D → R} {x : Str} {p pos : Pos} {e : Expr} {es : List Expr} {ea : Q.XA} {t : TA}
theorem pe_makeW (M : Mk X.K C f) (F : FnOk X.prog X.w X.K X.mg X.base (L2.CX X.prog X.w) k f fd ps sp) (hr : Room (k + 1) X.A) (hg : Gl X x) (hm : X.mg x = some (.ref C)) (hb : Binds X.K fd ps []) (tk : Takes X W) (ha : PA X (e :: es) t)
    (hdb : (x == ("__debug__" : Str)) = false) (he : starEach (e :: es) X.env = (false, eval e X.env) :: starEach es X.env) (hpl : (backTo pos (starEach es X.env)).any (·.1) = false) :
    PE X (.Call (.Name x p) (e :: es) [] pos) (tMakeW C sp W t) := by
  refine ⟨fun pins s σ H P I h => wpAny_Call_Name_kw (ld_glob I hg hm ?_ hdb)⟩
  refine PySem.W.callWith_K (h₀ := X.base) I.ok.mod.kin M.kp (thn (ha.run pos pins s σ H _ I h) fun us s1 hh => ?_) he hpl
  obtain ⟨vs, H1, I1, r, q⟩ := hh
  refine ⟨I1.kIn, ?_⟩
  have hq := q (s1.heap.objs.size + 1) s1.heap.objs.size (I1.hok.fresh (Nat.le_succ _)) (I1.hok.fresh (Nat.le_refl _)) (Nat.ne_of_lt (Nat.lt_succ_self _))
  have I2 := Inv.made (C := C) I1
  have r2 : Vals (V.ref (s1.heap.objs.size + 1) :: vs) (Value.ref (s1.heap.objs.size + 1) :: us) := .cons rfl r
  have hl : (Value.ref (s1.heap.objs.size + 1) :: us ++ []).length = ps.length := by
    have e1 := F.len _ _ _ _ hq
    rw [List.append_nil, ← r2.length, e1]
  have bd := hb _ (Value.ref (s1.heap.objs.size + 1) :: us) I2.kIn hl
  rw [List.append_nil] at bd
  refine wpAny_call (make_map (f := f) I1.kIn M.makes M.init (beq_iff_eq.mp M.fn) (codeAny_mono (F.run _ X.stack _ _ ⟨Value.ref (s1.heap.objs.size + 1) :: us, []⟩ _ _ _ _ (hr.make C us []) (I2.env0.make C us []) bd r2 hq) fun z s' hz => ?_))
  cases z with
  | error e => exact passAt tk σ pins _ _ e s' I2 hz
  | ok fl =>
    cases fl with
    | ret u =>
      obtain ⟨v, H', I3, rv, ev, q3⟩ := I2.after hz
      subst ev
      exact ⟨rv, V.ref (s1.heap.objs.size + 1), H', I3, rfl, q3⟩
    | next => exact False.elim hz
    | brk => exact False.elim hz
    | cont => exact False.elim hz
theorem rep_notNew {G : Cfg} {A : Reg} {H : Hp} {vs : List V} {ds : List D} (r : Reps G A H vs ds) : Reps G (fun a => A a ∧ H a ≠ none) H vs ds := r.dom
/-- the new object as its maker holds it -/
theorem made_ok {fm : Fm} {hs : List Addr} {env : Q.Env} {σ : L2.St} {H1 : Hp} {vs : List V} {ds : List D} {t : Bool} {keep : Bool} {P : VK} (E : EnvOk G fm hs env [] σ H1)
    (r1 : Reps G (fun a => Cold fm hs a ∨ (t = true ∧ TR fm hs a)) H1 vs ds) (acc : AccR G W fm hs σ H1 (if ds.length = n then Q.made t (t && keep) (g ds) else .bad) fun _ _ v H' => P v H')
    (hobj : ∀ d cl, g ds = .ok d cl → ∃ fs, d = .obj c fs) :
    ∀ x dx, H1 x = none → H1 dx = none → dx ≠ x → spI G c n keep g (.ref x :: vs) (L2.upd (L2.upd H1 dx (.own x)) x (.ins (G.cls c) dx [])) (fun v H2 => v = .non ∧ P (.ref x) H2) (fun cls d H' => W cls d σ H') := by
  intro x dx hx hdx hne
  by_cases hn : ds.length = n
  · rw [if_pos hn] at acc
    have s0 : Same H1 (L2.upd (L2.upd H1 dx (.own x)) x (.ins (G.cls c) dx [])) := fun b o e => by
      rw [upd_ne (ne_of_none e hx), upd_ne (ne_of_none e hdx)]
      exact e
    have gone : ∀ a, L2.upd (L2.upd H1 dx (.own x)) x (.ins (G.cls c) dx []) a = none → H1 a = none := fun a h => s0.free h
    have rd := (rep_notNew r1).later s0
    refine ⟨x, dx, vs, fun a => (Cold fm hs a ∨ (t = true ∧ TR fm hs a)) ∧ H1 a ≠ none, ds, rfl, by rw [r1.1]; exact hn, upd_same, fun h => h.2 hx, fun a h => ?_, rd, ?_⟩
    · cases q : H1 a with
      | none => exact absurd q h.2
      | some o => rw [s0 _ _ q]; exact fun z => nomatch z
    · have tr : ∀ a, (Cold fm hs a ∨ (t = true ∧ TR fm hs a)) ∧ H1 a ≠ none → TR fm hs a := fun a h => h.1.elim (fun z => .inl z.1) fun z => z.2
      cases q : g ds with
      | bad => rw [q] at acc; exact acc
      | ok d cl =>
        rw [q] at acc
        have acc : ∀ v H', Same H1 H' → VOk G fm hs H1 H' v d (if (t && keep) = true then .taint else .fresh) → P v H' := acc
        obtain ⟨fs, rfl⟩ := hobj d cl q
        refine ⟨fs, rfl, fun H' dx' vs' s hx' rr => ⟨rfl, acc _ H' (fun b o e => s b o (fun z => by rw [z, hx] at e; cases e) (s0 b o e)) ?_⟩⟩
        have nw : ∀ a, L2.upd (L2.upd H1 dx (.own x)) x (.ins (G.cls c) dx []) a = none → Cold fm hs a := fun a h => E.newCold (gone a h)
        by_cases tk : (t && keep) = true
        · rw [if_pos tk]
          exact Rep.obj (.inl (E.newCold hx).1) hx' rr.1 fun i v d a b => (rr.2 i v d a b).wider fun a h => h.1.elim (fun z => tr a z.2) fun z => .inl (nw a z).1
        · rw [if_neg tk]
          refine .inr ⟨x, dx', vs', c, fs, rfl, rfl, hx, hx', rr.mono (Same.refl _) fun a h => ⟨h.1.elim (fun z => ?_) (nw a), h.2⟩⟩
          have ht : t = false := by
            cases t with
            | false => rfl
            | true => exact absurd (by rw [z.1]; rfl) tk
          exact z.2.1.elim id fun w => by rw [ht] at w; cases w.1
      | exc kk fs =>
        rw [q] at acc
        intro cls dd H' s xx
        have sH : Same H1 H' := fun b o e => s b o (fun z => by rw [z, hx] at e; cases e) (s0 b o e)
        have nw : ∀ a, L2.upd (L2.upd H1 dx (.own x)) x (.ins (G.cls c) dx []) a = none → Cold fm hs a := fun a h => E.newCold (gone a h)
        cases t with
        | false =>
          have acc : ∀ cls dd H', Same H1 H' → RepX G (Cold fm hs) (New fm hs) H' cls dd kk fs → W cls dd σ H' := acc
          exact acc cls dd H' sH (xx.mono (Same.refl _) (fun a h => h.elim (fun z => z.1.elim id fun w => by cases w.1) (nw a)) fun a h => E.newNew (gone a h))
        | true =>
          by_cases sc : fs.all Q.D.scalar = true
          · have e : Q.made true (true && keep) (.exc kk fs) = .exc kk fs := by
              show (if (true && !fs.all Q.D.scalar) = true then R.bad else .exc kk fs) = _
              rw [sc]; rfl
            rw [e] at acc
            exact acc cls dd H' sH (xx.scalars sc fun a h => E.newNew (gone a h))
          · have e : Q.made true (true && keep) (.exc kk fs) = .bad := by
              show (if (true && !fs.all Q.D.scalar) = true then R.bad else .exc kk fs) = _
              rw [if_pos (by simp only [Bool.true_and, Bool.not_eq_true']; simpa using sc)]
            rw [e] at acc
            exact acc.elim
  · rw [if_neg hn] at acc
    exact acc.elim
theorem q_mk (M : Mk X.K (G.cls c) f) (F : FnOk X.prog X.w X.K X.mg X.base (L2.CX X.prog X.w) k f fd ps (spI G c n true g)) (hobj : ∀ ds d cl, g ds = .ok d cl → ∃ fs, d = .obj c fs) (hr : Room (k + 1) X.A) (hm : X.mg x = some (.ref (G.cls c))) (hb : Binds X.K fd ps []) (tk : Takes X W) (ha : PA X (e :: es) (tA G W ea))
    (hg : Gl X x := by rfl) (hdb : (x == ("__debug__" : Str)) = false := by decide) (he : starEach (e :: es) X.env = (false, eval e X.env) :: starEach es X.env := by rfl) (hpl : (backTo pos (starEach es X.env)).any (·.1) = false := by rfl) :
    PE X (.Call (.Name x p) (e :: es) [] pos) (tE G W (Q.mk n g ea)) :=
  (pe_makeW M F hr hg hm hb tk ha hdb he hpl).conv fun σ H P ⟨fm, hs, env, E, acc⟩ => tA_in E (accA_bind acc) fun ds t vs H1 E1 s1 r1 acc1 => made_ok (keep := true) E1 r1 (by rw [Bool.and_true]; exact acc1) (hobj ds)
theorem q_mkN (M : Mk X.K (G.cls c) f) (F : FnOk X.prog X.w X.K X.mg X.base (L2.CX X.prog X.w) k f fd ps (spI G c n false g)) (hobj : ∀ ds d cl, g ds = .ok d cl → ∃ fs, d = .obj c fs) (hr : Room (k + 1) X.A) (hm : X.mg x = some (.ref (G.cls c))) (hb : Binds X.K fd ps []) (tk : Takes X W) (ha : PA X (e :: es) (tA G W ea))
    (hg : Gl X x := by rfl) (hdb : (x == ("__debug__" : Str)) = false := by decide) (he : starEach (e :: es) X.env = (false, eval e X.env) :: starEach es X.env := by rfl) (hpl : (backTo pos (starEach es X.env)).any (·.1) = false := by rfl) :
    PE X (.Call (.Name x p) (e :: es) [] pos) (tE G W (Q.mkN n g ea)) :=
  (pe_makeW M F hr hg hm hb tk ha hdb he hpl).conv fun σ H P ⟨fm, hs, env, E, acc⟩ => tA_in E (accA_bind acc) fun ds t vs H1 E1 s1 r1 acc1 => made_ok (keep := false) E1 r1 (by rw [Bool.and_false]; exact acc1) (hobj ds)
end
end QW

set_option Elab.async false
set_option linter.all false
set_option maxRecDepth 100000
set_option maxHeartbeats 4000000
namespace QW
open PySem PySem.Spec PyProof.Rows L2
open Q (D S R RA RB Ctl Cl Pat)
/-! ### statements -/
/-- a value as it is given back -/
def RtV (G : Cfg) (fm : Fm) (hs : List Addr) (H' : Hp) (v : V) (d : D) : Cl → Prop
  | .cold => Rep G (Cold fm hs) H' v d
  | .fresh => (∃ p vs ds, v = .ref p ∧ d = .lst ds ∧ fm.H0 p = none ∧ H' p = some (.lst vs) ∧ Reps G (fun a => Cold fm hs a ∧ a ≠ p) H' vs ds) ∨
      ∃ p dx vs c ds, v = .ref p ∧ d = .obj c ds ∧ fm.H0 p = none ∧ H' p = some (.ins (G.cls c) dx ((G.names c).zip vs)) ∧ Reps G (fun a => Cold fm hs a ∧ a ≠ p) H' vs ds
  | .hot => (∃ p vs ds, v = .ref p ∧ d = .lst ds ∧ p ∈ hs ∧ H' p = some (.lst vs) ∧ Reps G (Cold fm hs) H' vs ds) ∨
      ∃ p dx vs c ds, v = .ref p ∧ d = .obj c ds ∧ p ∈ hs ∧ H' p = some (.ins (G.cls c) dx ((G.names c).zip vs)) ∧ Reps G (Cold fm hs) H' vs ds
  | .taint => Rep G (TR fm hs) H' v d
def AccS (G : Cfg) (W : WX) (fm : Fm) (ks : List (V × D)) (T : Ends) : Ctl → Prop
  | .nx e => ∀ hs σ H, EnvOk G fm hs e ks σ H → T.nx σ H
  | .bk e => ∀ hs σ H, EnvOk G fm hs e ks σ H → T.bk σ H
  | .ct e => ∀ hs σ H, EnvOk G fm hs e ks σ H → T.ct σ H
  | .rt d c e => ∀ v hs σ H, EnvOk G fm hs e ks σ H → RtV G fm hs H v d c → T.rt v H
  | .exc k fs e => ∀ cls dd hs σ H, EnvOk G fm hs e ks σ H → RepX G (Cold fm hs) (New fm hs) H cls dd k fs → W cls dd σ H
  | .bad => False
def tS (G : Cfg) (W : WX) (ev : Q.XS) : TS := fun T σ H => ∃ fm hs env ks, EnvOk G fm hs env ks σ H ∧ AccS G W fm ks T (ev env)
section
variable {G : Cfg} {W : WX} {fm : Fm} {hs : List Addr} {env : Q.Env} {ks : List (V × D)} {σ : L2.St} {H : Hp} {T : Ends}
theorem rtv_of {v : V} {d : D} {c : Cl} {H' : Hp} (E : EnvOk G fm hs env ks σ H) (o : VOk G fm hs H H' v d c) : RtV G fm hs H' v d c := by
  cases c with
  | cold => exact o
  | taint => exact o
  | hot => exact o
  | fresh =>
    rcases o with ⟨p, vs, ds, a, b, c, d, e⟩ | ⟨p, dx, vs, k, ds, a, b, c, d, e⟩
    · exact .inl ⟨p, vs, ds, a, b, E.newH0 c, d, e⟩
    · exact .inr ⟨p, dx, vs, k, ds, a, b, E.newH0 c, d, e⟩
/-- a statement that begins with an evaluation -/
theorem accS_bind {r : R} {k : D → Cl → Ctl} (E : EnvOk G fm hs env ks σ H) (h : AccS G W fm ks T (r.bindS env k)) :
    AccR G W fm hs σ H r fun d c v H' => AccS G W fm ks T (k d c) := by
  cases r with
  | ok d c => exact fun v H' s q => h
  | exc k fs => exact fun cls dd H' s x => h cls dd hs σ H' (E.later s) x
  | bad => exact h
theorem accS_bindA {r : RA} {k : List D → Bool → Ctl} (E : EnvOk G fm hs env ks σ H) (h : AccS G W fm ks T (r.bindS env k)) :
    AccA G W fm hs σ H r fun d c v H' => AccS G W fm ks T (k d c) := by
  cases r with
  | ok d c => exact fun v H' s q => h
  | exc k fs => exact fun cls dd H' s x => h cls dd hs σ H' (E.later s) x
  | bad => exact h
theorem accS_bindB {r : RB} {k : Bool → Ctl} (E : EnvOk G fm hs env ks σ H) (h : AccS G W fm ks T (r.bindS env k)) :
    AccB G W fm hs σ H r fun b H' => AccS G W fm ks T (k b) := by
  cases r with
  | ok d => exact fun H' s => h
  | exc k fs => exact fun cls dd H' s x => h cls dd hs σ H' (E.later s) x
  | bad => exact h
theorem tE_st {ev : Q.X} {P : D → Cl → V → Hp → Prop} {P' : VK} (E : EnvOk G fm hs env ks σ H) (h : AccR G W fm hs σ H (ev env) P)
    (m : ∀ d c v H', EnvOk G fm hs env ks σ H' → Same H H' → VOk G fm hs H H' v d c → P d c v H' → P' v H') : tE G W ev σ H P' :=
  ⟨fm, hs, env, E.drop, h.imp fun d c v H' _ s q x => m d c v H' (E.later s) s q x⟩
theorem tT_st {ev : Q.XB} {P : Bool → Hp → Prop} {P' : Bool → Hp → Prop} (E : EnvOk G fm hs env ks σ H) (h : AccB G W fm hs σ H (ev env) P)
    (m : ∀ b H', EnvOk G fm hs env ks σ H' → Same H H' → P b H' → P' b H') : tT G W ev σ H P' :=
  ⟨fm, hs, env, E.drop, h.imp fun d H' _ s x => m d H' (E.later s) s x⟩
theorem accS_seq {r : Ctl} {k : Q.Env → Ctl} (h : AccS G W fm ks T (r.bind k)) {u : TS} (m : ∀ hs e σ H, EnvOk G fm hs e ks σ H → AccS G W fm ks T (k e) → u T σ H) : AccS G W fm ks { T with nx := u T } r := by
  cases r with
  | nx e => exact fun hs σ H E => m hs e σ H E h
  | bk e => exact h
  | ct e => exact h
  | rt d c e => exact h
  | exc k fs e => exact h
  | bad => exact h
/-- the object of a slot is written -/
theorem EnvOk.writeSlot {i : Nat} {s0 s1 : S} {p : Addr} {o : HO} (E : EnvOk G fm hs env ks σ H) (hi : env[i]? = some s0) (h0 : isHot s0) (hσ : σ[i]? = some (some (.ref p))) (hp : p ∈ hs) (h1 : isHot s1)
    (new : SlotOk G fm hs (L2.upd H p o) s1 σ[i]?) : EnvOk G fm hs (env.set i s1) ks σ (L2.upd H p o) where
  ex := fun a u n h => by
    have na : a ≠ p := fun z => by
      subst z
      rcases (E.hn a hp).1 with m | m
      · exact n m
      · rw [h] at m; cases m
    rw [upd_ne na]
    exact E.ex a u n h
  len := by rw [List.length_set]; exact E.len
  bor := E.bor
  ms0 := E.ms0
  msh := E.msh
  hn := fun a m => ⟨(E.hn a m).1, by
    by_cases z : a = p
    · subst z; rw [upd_same]; exact fun q => nomatch q
    · rw [upd_ne z]; exact (E.hn a m).2⟩
  slot := fun j s q => by
    rcases get_set q with ⟨rfl, _, rfl⟩ | ⟨hne, q⟩
    · exact new
    · have sl := E.slot j s q
      cases s with
      | no => trivial
      | cold d =>
        obtain ⟨v, a, b⟩ := sl
        exact ⟨v, a, b.upd (EnvOk.notCold hp)⟩
      | hot ds =>
        obtain ⟨q', vs, a, b, n, c, d⟩ := sl
        have nq : q' ≠ p := fun z => hne (E.inj j i _ _ p q hi trivial h0 (z ▸ a) hσ)
        exact ⟨q', vs, a, b, n, by rw [upd_ne nq]; exact c, d.upd (EnvOk.notCold hp)⟩
      | hob k ds =>
        obtain ⟨q', dx, vs, a, b, n, c, d⟩ := sl
        have nq : q' ≠ p := fun z => hne (E.inj j i _ _ p q hi trivial h0 (z ▸ a) hσ)
        exact ⟨q', dx, vs, a, b, n, by rw [upd_ne nq]; exact c, d.upd (EnvOk.notCold hp)⟩
      | slf k ds =>
        obtain ⟨q', dx, vs, a, b, n, c, d⟩ := sl
        have nq : q' ≠ p := fun z => hne (E.inj j i _ _ p q hi trivial h0 (z ▸ a) hσ)
        exact ⟨q', dx, vs, a, b, n, by rw [upd_ne nq]; exact c, d.upd (EnvOk.notCold hp)⟩
      | bor d =>
        obtain ⟨v, a, b⟩ := sl
        exact ⟨v, a, b.upd (E.notBor hp)⟩
      | exn k fs =>
        obtain ⟨a, cls, dd, b, c, r⟩ := sl
        exact ⟨a, cls, dd, b, c, RepX.upd r hp⟩
  inj := fun j k s t q a b c d e f => by
    have back : ∀ {m : Nat} {s : S}, (env.set i s1)[m]? = some s → isHot s → ∃ s', env[m]? = some s' ∧ isHot s' := fun {m s} h hh => by
      rcases get_set h with ⟨rfl, _, rfl⟩ | ⟨_, h⟩
      · exact ⟨s0, hi, h0⟩
      · exact ⟨s, h, hh⟩
    obtain ⟨s', a', c'⟩ := back a c
    obtain ⟨t', b', d'⟩ := back b d
    exact E.inj j k s' t' q a' b' c' d' e f
  fr := fun k m => (E.fr k m).upd (EnvOk.notCold hp)
/-- a fresh object is bound to a name that will change it -/
theorem EnvOk.bindHot {i : Nat} {p : Addr} {s1 : S} {H' : Hp} (E : EnvOk G fm hs env ks σ H) (s : Same H H') (hp : H p = none) (hp' : H' p ≠ none) (h1 : isHot s1)
    (new : SlotOk G fm (p :: hs) H' s1 (some (some (.ref p)))) : EnvOk G fm (p :: hs) (env.set i s1) ks (σ.set i (some (.ref p))) H' where
  ex := (E.later s).ex
  len := by rw [List.length_set, List.length_set]; exact E.len
  bor := E.bor
  ms0 := E.ms0
  msh := fun a m => List.mem_cons_of_mem _ (E.msh a m)
  hn := fun a m => by
    rcases List.mem_cons.mp m with rfl | m
    · exact ⟨.inr (E.newH0 hp), hp'⟩
    · exact (E.later s).hn a m
  slot := fun j t q => by
    rcases get_set q with ⟨rfl, hl, rfl⟩ | ⟨hne, q⟩
    · rw [List.getElem?_set_self (by rw [E.len]; exact hl)]
      exact new
    · rw [List.getElem?_set_ne (fun z => hne z.symm)]
      have sl := E.slot j t q
      cases t with
      | no => trivial
      | cold d =>
        obtain ⟨v, a, b⟩ := sl
        exact ⟨v, a, (Rep.hide b hp).later s⟩
      | hot ds =>
        obtain ⟨q', vs, a, b, n, c, d⟩ := sl
        exact ⟨q', vs, a, List.mem_cons_of_mem _ b, n, s _ _ c, (Reps.hide d hp).later s⟩
      | hob k ds =>
        obtain ⟨q', dx, vs, a, b, n, c, d⟩ := sl
        exact ⟨q', dx, vs, a, List.mem_cons_of_mem _ b, n, s _ _ c, (Reps.hide d hp).later s⟩
      | slf k ds =>
        obtain ⟨q', dx, vs, a, b, n, c, d⟩ := sl
        exact ⟨q', dx, vs, a, List.mem_cons_of_mem _ b, n, s _ _ c, (Reps.hide d hp).later s⟩
      | bor d =>
        obtain ⟨v, a, b⟩ := sl
        exact ⟨v, a, b.later s⟩
      | exn k fs =>
        obtain ⟨a, cls, dd, b, c, r⟩ := sl
        exact ⟨a, cls, dd, b, c, (RepX.hide r hp).mono s (fun _ h => h) fun _ h => h⟩
  inj := fun j k s' t q a b c d e f => by
    have old : ∀ {m : Nat} {t : S}, (env.set i s1)[m]? = some t → isHot t → (σ.set i (some (.ref p)))[m]? = some (some (.ref q)) → (m = i ∧ q = p) ∨ (m ≠ i ∧ q ≠ p ∧ env[m]? = some t ∧ σ[m]? = some (some (.ref q))) := fun {m t} h hh hσ => by
      rcases get_set h with ⟨rfl, hl, rfl⟩ | ⟨hne, h⟩
      · rw [List.getElem?_set_self (by rw [E.len]; exact hl)] at hσ
        exact .inl ⟨rfl, by simpa using hσ.symm⟩
      · rw [List.getElem?_set_ne (fun z => hne z.symm)] at hσ
        refine .inr ⟨hne, fun z => ?_, h, hσ⟩
        subst z
        have sl := E.slot m t h
        cases t with
        | hot ds =>
          obtain ⟨q', vs, a, b, n, c, d⟩ := sl
          rw [hσ] at a; cases a
          rw [hp] at c; cases c
        | hob k ds =>
          obtain ⟨q', dx, vs, a, b, n, c, d⟩ := sl
          rw [hσ] at a; cases a
          rw [hp] at c; cases c
        | slf k ds =>
          obtain ⟨q', dx, vs, a, b, n, c, d⟩ := sl
          rw [hσ] at a; cases a
          rw [hp] at c; cases c
        | _ => exact hh
    rcases old a c e with ⟨r1, r2⟩ | ⟨r1, r2, r3, r4⟩ <;> rcases old b d f with ⟨u1, u2⟩ | ⟨u1, u2, u3, u4⟩
    · rw [r1, u1]
    · exact absurd r2 u2
    · exact absurd u2 r2
    · exact E.inj j k s' t q r3 u3 c d r4 u4
  fr := fun k m => (Rep.hide (E.fr k m) hp).later s
/-- a list of the frame's is changed no more -/
theorem EnvOk.freeze {i : Nat} {ds : List D} (E : EnvOk G fm hs env ks σ H) (hi : env[i]? = some (.hot ds)) : ∃ hs', EnvOk G fm hs' (env.set i (.cold (.lst ds))) ks σ H := by
  obtain ⟨p, vs, hσ, hp, hn0, hH, rr⟩ := E.slot i _ hi
  have m : ∀ a, Cold fm hs a → Cold fm (hs.filter fun a => decide (a ≠ p)) a := fun a h => ⟨h.1, fun z => h.2 ((List.mem_filter.mp z).1)⟩
  have pm : p ∉ fm.ms := fun z => E.ms0 p z hn0
  refine ⟨hs.filter fun a => decide (a ≠ p), ⟨E.ex, by rw [List.length_set]; exact E.len, E.bor, E.ms0, fun a h => List.mem_filter.mpr ⟨E.msh a h, decide_eq_true fun z => pm (z ▸ h)⟩, fun a h => E.hn a ((List.mem_filter.mp h).1), fun j s q => ?_, fun j k s t q a b c d e f => ?_, fun k h => (E.fr k h).wider m⟩⟩
  · rcases get_set q with ⟨rfl, _, rfl⟩ | ⟨hne, q⟩
    · refine ⟨.ref p, hσ, Rep.lst ⟨.inr hn0, fun z => by simpa using (List.mem_filter.mp z).2⟩ hH rr.1 fun i v d a b => (rr.2 i v d a b).wider m⟩
    · have sl := E.slot j s q
      cases s with
      | no => trivial
      | cold d =>
        obtain ⟨v, a, b⟩ := sl
        exact ⟨v, a, b.wider m⟩
      | hot es =>
        obtain ⟨q', vs, a, b, n, c, d⟩ := sl
        have nq : q' ≠ p := fun z => hne (E.inj j i _ _ p q hi trivial trivial (z ▸ a) hσ)
        exact ⟨q', vs, a, List.mem_filter.mpr ⟨b, decide_eq_true nq⟩, n, c, d.mono (Same.refl _) m⟩
      | hob k es =>
        obtain ⟨q', dx, vs, a, b, n, c, d⟩ := sl
        have nq : q' ≠ p := fun z => hne (E.inj j i _ _ p q hi trivial trivial (z ▸ a) hσ)
        exact ⟨q', dx, vs, a, List.mem_filter.mpr ⟨b, decide_eq_true nq⟩, n, c, d.mono (Same.refl _) m⟩
      | slf k es =>
        obtain ⟨q', dx, vs, a, b, n, c, d⟩ := sl
        have nq : q' ≠ p := fun z => hne (E.inj j i _ _ p q hi trivial trivial (z ▸ a) hσ)
        exact ⟨q', dx, vs, a, List.mem_filter.mpr ⟨b, decide_eq_true nq⟩, n, c, d.mono (Same.refl _) m⟩
      | bor d => exact sl
      | exn k fs =>
        obtain ⟨a, cls, dd, b, c, r⟩ := sl
        exact ⟨a, cls, dd, b, c, RepX.mono r (Same.refl _) m fun _ h => ⟨h.1, fun z => h.2 (List.mem_filter.mp z).1⟩⟩
  · have old : ∀ {m : Nat} {t : S}, (env.set i (.cold (.lst ds)))[m]? = some t → isHot t → env[m]? = some t := fun {m t} h hh => by
      rcases get_set h with ⟨rfl, hl, rfl⟩ | ⟨hne, h⟩
      · exact hh.elim
      · exact h
    exact E.inj j k s t q (old a c) (old b d) c d e f
end
end QW

set_option Elab.async false
set_option linter.all false
set_option maxRecDepth 100000
set_option maxHeartbeats 4000000
namespace QW
open PySem PySem.Spec PyProof.Rows L2
open Q (D S R RA RB Ctl Cl Pat)
section
variable {X : Cx} {W : WX} {G : Cfg} {st : Stmt} {rest : List Stmt} {pos : Pos} {sa sb : Q.XS} {e a b : Expr} {ea eb : Q.X} {eas : Q.XA} {tt : Q.XB}
/-- a statement that is never come to -/
theorem s_bad : PS X st (tS G W Q.sbad) := ⟨fun pins s σ H T I ⟨_, _, _, _, _, acc⟩ => acc.elim⟩
theorem s_nil : PSs X [] (tS G W Q.snop) := PSs.conv pss_nil fun T σ H ⟨fm, hs, env, ks, E, acc⟩ => acc hs σ H E
theorem s_cons (h1 : PS X st (tS G W sa)) (h2 : PSs X rest (tS G W sb)) : PSs X (st :: rest) (tS G W (Q.seq sa sb)) :=
  PSs.conv (pss_cons h1 h2) fun T σ H ⟨fm, hs, env, ks, E, acc⟩ => ⟨fm, hs, env, ks, E, accS_seq acc fun hs' e σ' H' E' acc' => ⟨fm, hs', e, ks, E', acc'⟩⟩
theorem s_one (h1 : PS X st (tS G W sa)) : PSs X [st] (tS G W sa) := pss_one h1
theorem s_ghost {i : Nat} (h : PSs X rest (tS G W sb)) : PSs X rest (tS G W (Q.seq (Q.sfreeze i) sb)) :=
  PSs.conv h fun T σ H ⟨fm, hs, env, ks, E, acc⟩ => by
    have e : Q.seq (Q.sfreeze i) sb env = (match env[i]? with
      | some (.hot ds) => Ctl.nx (env.set i (.cold (.lst ds)))
      | _ => .bad).bind sb := rfl
    rw [e] at acc
    cases q : env[i]? with
    | none => rw [q] at acc; exact acc.elim
    | some s =>
      rw [q] at acc
      cases s with
      | hot ds =>
        obtain ⟨hs', E'⟩ := E.freeze q
        exact ⟨fm, hs', _, ks, E', acc⟩
      | _ => exact acc.elim
theorem s_pass : PS X (.Pass pos) (tS G W Q.snop) := PS.conv ps_pass fun T σ H ⟨fm, hs, env, ks, E, acc⟩ => acc hs σ H E
theorem s_break : PS X (.Break pos) (tS G W Q.sbrk) := PS.conv ps_break fun T σ H ⟨fm, hs, env, ks, E, acc⟩ => acc hs σ H E
theorem s_cont : PS X (.Continue pos) (tS G W Q.scnt) := PS.conv ps_continue fun T σ H ⟨fm, hs, env, ks, E, acc⟩ => acc hs σ H E
theorem set_reads {i : Nat} {T : Ends} {σ : L2.St} {H : Hp} (h : tS G W (Q.sset i ea) T σ H) : tAsg (tE G W ea) (gName i) T σ H := by
  obtain ⟨fm, hs, env, ks, E, acc⟩ := h
  refine tE_st E (accS_bind E acc) fun d c v H1 E1 s1 o1 acc1 => ?_
  cases hd : Q.dirty c d with
  | true => simp only [hd] at acc1; exact acc1.elim
  | false =>
    simp only [hd] at acc1
    exact acc1 hs _ _ (E1.setCold (o1.clean E hd) i)
theorem hot_reads {i : Nat} {T : Ends} {σ : L2.St} {H : Hp} (h : tS G W (Q.shot i ea) T σ H) : tAsg (tE G W ea) (gName i) T σ H := by
  obtain ⟨fm, hs, env, ks, E, acc⟩ := h
  refine tE_st E (accS_bind E acc) fun d c v H1 E1 s1 o1 acc1 => ?_
  cases c with
  | fresh =>
    rcases o1 with ⟨p, vs, ds, rfl, rfl, hp, hp', rr⟩ | ⟨p, dx, vs, k, ds, rfl, rfl, hp, hp', rr⟩
    · refine acc1 (p :: hs) _ _ (E.bindHot s1 hp (by rw [hp']; exact fun z => nomatch z) trivial ⟨p, vs, rfl, List.mem_cons_self, E.newH0 hp, hp', rr.mono (Same.refl _) fun a h => ⟨h.1.1, fun m => ?_⟩⟩)
      rcases List.mem_cons.mp m with z | m
      · exact h.2 z
      · exact h.1.2 m
    · refine acc1 (p :: hs) _ _ (E.bindHot s1 hp (by rw [hp']; exact fun z => nomatch z) trivial ⟨p, dx, vs, rfl, List.mem_cons_self, E.newH0 hp, hp', rr.mono (Same.refl _) fun a h => ⟨h.1.1, fun m => ?_⟩⟩)
      rcases List.mem_cons.mp m with z | m
      · exact h.2 z
      · exact h.1.2 m
  | cold => cases d <;> exact acc1.elim
  | hot => cases d <;> exact acc1.elim
  | taint => cases d <;> exact acc1.elim
section
variable {i : Nat} {x : Str} {pos' : Pos}
theorem s_set (hN : X.N.Nodup) (he : PE X e (tE G W ea)) (hi : X.N[i]? = some x := by rfl) (hx : Loc X.env.scope x := by first | exact .inl rfl | exact .inr rfl)
    (hs : swapsWith e (some (.Name x pos')) pos.line X.env = pure false := by rfl) (hf : X.fn x = true ∨ X.env.scope.names.lookup x = some .local := by first | exact .inl rfl | exact .inr rfl) :
    PS X (.Assign [.Name x pos'] e pos) (tS G W (Q.sset i ea)) := PS.conv (ps_set hN hi hx he hs hf) fun _ _ _ h => set_reads h
theorem s_hot (hN : X.N.Nodup) (he : PE X e (tE G W ea)) (hi : X.N[i]? = some x := by rfl) (hx : Loc X.env.scope x := by first | exact .inl rfl | exact .inr rfl)
    (hs : swapsWith e (some (.Name x pos')) pos.line X.env = pure false := by rfl) (hf : X.fn x = true ∨ X.env.scope.names.lookup x = some .local := by first | exact .inl rfl | exact .inr rfl) :
    PS X (.Assign [.Name x pos'] e pos) (tS G W (Q.shot i ea)) := PS.conv (ps_set hN hi hx he hs hf) fun _ _ _ h => hot_reads h
end
section
variable {elt tg iter : Expr} {ifs : List Expr} {scope : Scope} {own : List (Str × Nat)} {spos py : Pos} {ev : Q.XI} {p : Pat} {te : Q.X} {vs : List Nat} {i : Nat} {y : Str}
theorem s_setLc (hc : X.calm = true) (hN : X.N.Nodup) (hi : PI X tg iter (tI G ev)) (ok : BlkOk X.N X.env.scope scope own)
    (hg : ∀ (s : Shared) (H : Hp) (C : Addr) (cl : List (Str × Addr)) (fp : List Addr), PG (X.blk s H scope (compEnvC scope cl C X.env) fp) tg (tG G p))
    (ht : ∀ (s : Shared) (H : Hp) (C : Addr) (cl : List (Str × Addr)) (fp : List Addr), PTs (X.blk s H scope (compEnvC scope cl C X.env) fp) ifs (tT G noW tt))
    (he : ∀ (s : Shared) (H : Hp) (C : Addr) (cl : List (Str × Addr)) (fp : List Addr), PE (X.blk s H scope (compEnvC scope cl C X.env) fp) elt (tE G noW te))
    (hy : X.N[i]? = some y := by rfl) (hyl : X.env.scope.names.lookup y = some .local := by rfl)
    (hsw : swapsWith (.ListComp elt [⟨tg, iter, ifs, 0⟩] scope pos) (some (.Name y py)) spos.line X.env = pure true := by exact sw_true rfl rfl rfl (by decide +kernel))
    (hvs : own.map (·.2) = vs := by rfl) (hsub : ∀ i ∈ Pat.slots p, i ∈ vs := by decide) (hs : ∀ x, foldedSetIterable iter X.env x = pure x := by intro _; rfl) :
    PS X (.Assign [.Name y py] (.ListComp elt [⟨tg, iter, ifs, 0⟩] scope pos) spos) (tS G W (Q.sset i (Q.lc vs ev p tt te))) := by
  subst hvs
  refine PS.conv (ps_setLc (i := i) hc hN hy hyl hsw hi ok hg ht he hs) fun T σ H h => ?_
  exact lc_reads (W := W) hsub (set_reads h)
theorem s_hotLc (hc : X.calm = true) (hN : X.N.Nodup) (hi : PI X tg iter (tI G ev)) (ok : BlkOk X.N X.env.scope scope own)
    (hg : ∀ (s : Shared) (H : Hp) (C : Addr) (cl : List (Str × Addr)) (fp : List Addr), PG (X.blk s H scope (compEnvC scope cl C X.env) fp) tg (tG G p))
    (ht : ∀ (s : Shared) (H : Hp) (C : Addr) (cl : List (Str × Addr)) (fp : List Addr), PTs (X.blk s H scope (compEnvC scope cl C X.env) fp) ifs (tT G noW tt))
    (he : ∀ (s : Shared) (H : Hp) (C : Addr) (cl : List (Str × Addr)) (fp : List Addr), PE (X.blk s H scope (compEnvC scope cl C X.env) fp) elt (tE G noW te))
    (hy : X.N[i]? = some y := by rfl) (hyl : X.env.scope.names.lookup y = some .local := by rfl)
    (hsw : swapsWith (.ListComp elt [⟨tg, iter, ifs, 0⟩] scope pos) (some (.Name y py)) spos.line X.env = pure true := by exact sw_true rfl rfl rfl (by decide +kernel))
    (hvs : own.map (·.2) = vs := by rfl) (hsub : ∀ i ∈ Pat.slots p, i ∈ vs := by decide) (hs : ∀ x, foldedSetIterable iter X.env x = pure x := by intro _; rfl) :
    PS X (.Assign [.Name y py] (.ListComp elt [⟨tg, iter, ifs, 0⟩] scope pos) spos) (tS G W (Q.shot i (Q.lc vs ev p tt te))) := by
  subst hvs
  refine PS.conv (ps_setLc (i := i) hc hN hy hyl hsw hi ok hg ht he hs) fun T σ H h => ?_
  exact lc_reads (W := W) hsub (hot_reads h)
end
theorem s_unp {es : List Expr} {k : Nat} {is : List Nat} {tpos : Pos} (he : PE X e (tE G W ea)) (hg : PG X (.Tuple es k tpos) (tG G (.tp is)))
    (hs : swapsWithSole [.Tuple es k tpos] e pos.line X.env = pure false := by rfl) (hw : swappedStores [.Tuple es k tpos] e X.env = pure none := by rfl)
    (h1 : (assignEach [.Tuple es k tpos] X.env).map (·.2) = [assign (.Tuple es k tpos) X.env] := by rfl) : PS X (.Assign [.Tuple es k tpos] e pos) (tS G W (Q.sunp is ea)) :=
  PS.conv (ps_asg he hg hs hw h1) fun T σ H ⟨fm, hs, env, ks, E, acc⟩ => tE_st E (accS_bind E acc) fun d c v H1 E1 s1 o1 acc1 => by
    cases hd : Q.dirty c d with
    | true => simp only [hd] at acc1; exact acc1.elim
    | false =>
      simp only [hd] at acc1
      cases q : Q.Pat.put (.tp is) d env with
      | none => rw [q] at acc1; exact acc1.elim
      | some e1 =>
        rw [q] at acc1
        exact ⟨fm, hs, env, ks, d, e1, E1, o1.clean E hd, q, fun σ' E' _ => acc1 hs σ' H1 E'⟩
/-- a, b = x, y -/
theorem s_par {i j : Nat} {x y : Str} {px py pt : Pos} {kt k2 pt2} (hc : X.calm = true) (hN : X.N.Nodup) (ha : PE X a (tE G W ea)) (hb : PE X b (tE G W eb)) (hi : X.N[i]? = some x := by rfl) (hj : X.N[j]? = some y := by rfl) (hij : i ≠ j := by decide)
    (hx : X.env.scope.names.lookup x = some .local := by rfl) (hy : X.env.scope.names.lookup y = some .local := by rfl)
    (hw : swappedStores [.Tuple [.Name x px, .Name y py] kt pt] (.Tuple [a, b] k2 pt2) X.env = pure (some [x, y]) := by rfl)
    (hs : swapsWithSole [.Tuple [.Name x px, .Name y py] kt pt] (.Tuple [a, b] k2 pt2) pos.line X.env = pure false := by rfl)
    (h1 : starEach (a :: [b]) X.env = (false, eval a X.env) :: starEach [b] X.env := by rfl) (h2 : starEach (b :: []) X.env = (false, eval b X.env) :: starEach [] X.env := by rfl) :
    PS X (.Assign [.Tuple [.Name x px, .Name y py] kt pt] (.Tuple [a, b] k2 pt2) pos) (tS G W (Q.spar i j ea eb)) :=
  PS.conv (ps_par hc hN hi hj hij hx hy (pa_cons ha (pa_cons hb pa_nil h2) h1) hw hs) fun T σ H ⟨fm, hs, env, ks, E, acc⟩ => by
    refine tE_st E (accS_bind E acc) fun d c v H1 E1 s1 o1 acc1 => tE_st E1 (accS_bind E1 acc1) fun d2 c2 v2 H2 E2 s2 o2 acc2 => ⟨v, v2, rfl, ?_⟩
    cases hd : Q.dirty c d with
    | true => simp only [hd] at acc2; exact acc2.elim
    | false =>
      cases hd2 : Q.dirty c2 d2 with
      | true => simp only [hd, hd2] at acc2; exact acc2.elim
      | false =>
        simp only [hd, hd2] at acc2
        exact acc2 hs _ _ ((E2.setCold ((o1.clean E hd).later s2) i).setCold (o2.clean E1 hd2) j)
/-- x op= a -/
theorem s_aug {i : Nat} {x : Str} {op : Operator} {r : R2} {f : D → D → Option D} {pos' : Pos} (ho : OpR X (inplaceOp op) r) (hf : OpD G r f) (hN : X.N.Nodup) (he : PE X e (tE G W ea)) (hi : X.N[i]? = some x := by rfl) (hx : Loc X.env.scope x := by first | exact .inl rfl | exact .inr rfl)
    (hfn : X.fn x = true ∨ X.env.scope.names.lookup x = some .local := by first | exact .inl rfl | exact .inr rfl) : PS X (.AugAssign (.Name x pos') op e pos) (tS G W (Q.saug i f ea)) :=
  PS.conv (ps_aug (ti := r) hN hi hx he ho hfn) fun T σ H ⟨fm, hs, env, ks, E, acc⟩ => by
    have e : Q.saug i f ea env = (match env[i]? with
      | some (.cold x) => (ea env).bindS env fun y _ => (match f x y with
        | some z => Ctl.nx (env.set i (.cold z))
        | none => .bad)
      | _ => .bad) := rfl
    rw [e] at acc
    cases q : env[i]? with
    | none => rw [q] at acc; exact acc.elim
    | some s =>
      rw [q] at acc
      cases s with
      | cold d0 =>
        obtain ⟨v0, hσ, r0⟩ := E.slot i _ q
        refine ⟨v0, hσ, tE_st E (accS_bind E acc) fun d c v H1 E1 s1 o1 acc1 => ?_⟩
        cases z : f d0 d with
        | none => simp only [z] at acc1; exact acc1.elim
        | some y =>
          simp only [z] at acc1
          obtain ⟨sz, k⟩ := hf d0 d y z
          obtain ⟨vz, rz, k⟩ := k (TR fm hs) H1 v0 v ((r0.later s1).wider fun a h => .inl h.1) (o1.anyR E)
          exact k _ (acc1 hs _ _ (E1.setCold (rz.scalar sz) i))
      | _ => exact acc.elim
theorem s_expr (he : PE X e (tE G W ea)) (hs : swapsWith e none pos.line X.env = pure false := by rfl) : PS X (.Expr e pos) (tS G W (Q.sexpr ea)) :=
  PS.conv (ps_expr he hs) fun T σ H ⟨fm, hs, env, ks, E, acc⟩ => tE_st E (accS_bind E acc) fun d c v H1 E1 s1 o1 acc1 => acc1 hs σ H1 E1
theorem s_if {c : Expr} {ba bb : List Stmt} (hc : PT X c (tT G W tt)) (ha : PSs X ba (tS G W sa)) (hb : PSs X bb (tS G W sb)) : PS X (.If c ba bb pos) (tS G W (Q.sif tt sa sb)) :=
  PS.conv (ps_if hc ha hb) fun T σ H ⟨fm, hs, env, ks, E, acc⟩ => tT_st E (accS_bindB E acc) fun k H1 E1 s1 acc1 => by
    cases k with
    | true => exact ⟨fm, hs, env, ks, E1, acc1⟩
    | false => exact ⟨fm, hs, env, ks, E1, acc1⟩
theorem s_ret (he : PE X e (tE G W ea)) : PS X (.Return (some e) pos) (tS G W (Q.sret ea)) :=
  PS.conv (ps_ret he) fun T σ H ⟨fm, hs, env, ks, E, acc⟩ => tE_st E (accS_bind E acc) fun d c v H1 E1 s1 o1 acc1 => acc1 v hs σ H1 E1 (rtv_of E o1)
theorem s_retN : PS X (.Return none pos) (tS G W Q.sretN) := PS.conv ps_retN fun T σ H ⟨fm, hs, env, ks, E, acc⟩ => acc .non hs σ H E Rep.non
/-! ### lists that the frame changes -/
/-- the name of a hot list -/
theorem hot_var {i : Nat} {fm : Fm} {hs : List Addr} {env : Q.Env} {ks : List (V × D)} {σ : L2.St} {H : Hp} {ds : List D} (E : EnvOk G fm hs env ks σ H) (q : env[i]? = some (.hot ds)) :
    ∃ p vs, σ[i]? = some (some (.ref p)) ∧ p ∈ hs ∧ fm.H0 p = none ∧ H p = some (.lst vs) ∧ Reps G (Cold fm hs) H vs ds := E.slot i _ q
theorem hot_slot {i : Nat} {env : Q.Env} {fm : Fm} {ks : List (V × D)} {T : Ends} {k : List D → Ctl} (h : AccS G W fm ks T (match env[i]? with
    | some (.hot ds) => k ds
    | _ => .bad)) : ∃ ds, env[i]? = some (.hot ds) ∧ AccS G W fm ks T (k ds) := by
  cases q : env[i]? with
  | none => rw [q] at h; exact h.elim
  | some s =>
    rw [q] at h
    cases s with
    | hot ds => exact ⟨ds, rfl, h⟩
    | _ => exact h.elim
theorem s_app {i : Nat} {x : Str} {px pa pc : Pos} (he : PE X e (tE G W ea)) (hN : X.N[i]? = some x := by rfl) (hv : Vis X.env.scope x := by first | exact Or.inl rfl | exact Or.inr (Or.inl rfl) | exact Or.inr (Or.inr rfl))
    (hd : (x == ("__debug__" : Str)) = false := by decide) (hcd : (x == ("__classdict__" : Str)) = false := by decide)
    (hbase : attributeBase (.Name x px) "append" X.env (eval (.Name x px) X.env) = eval (.Name x px) X.env := by rfl)
    (hfew : ((backTo pc (starEach (e :: []) X.env)).all (fun x => !x.1) && (backToKw pc (keywordEach [] X.env)).all (fun x => x.1.isSome)
      && decide ((e :: []).length + ([] : List Keyword).length + (if ([] : List Keyword).isEmpty then 0 else 1) < 30)) = true := by rfl)
    (hline : (pa.endLine == pc.line) = true := by rfl) (hst : starEach (e :: []) X.env = (false, eval e X.env) :: starEach [] X.env := by rfl) (hplain : (backTo pc (starEach [] X.env)).any (·.1) = false := by rfl)
    (hs : swapsWith (.Call (.Attribute (.Name x px) "append" pa) [e] [] pc) none pos.line X.env = pure false := by rfl) :
    PS X (.Expr (.Call (.Attribute (.Name x px) "append" pa) [e] [] pc) pos) (tS G W (Q.sapp i ea)) :=
  PS.conv (ps_expr (pe_bm PySem.F.plainAttrs_list PySem.F.slot_list_append PySem.F.type_list_append mt_append (pv i hN hv hd hcd) (pa_cons he pa_nil hst) hbase hfew hline hst hplain) hs) fun T σ H ⟨fm, hs, env, ks, E, acc⟩ => by
    obtain ⟨ds, q, acc⟩ := hot_slot acc
    obtain ⟨p, vs, hσ, hp, hn0, hH, rr⟩ := hot_var E q
    refine ⟨_, hσ, .inl ⟨rfl, _, SqL.of hH⟩, tE_st E (accS_bind E acc) fun d c v H1 E1 s1 o1 acc1 => ?_⟩
    cases hd : Q.dirty c d with
    | true => simp only [hd] at acc1; exact acc1.elim
    | false =>
      simp only [hd] at acc1
      by_cases hm : ds.length < Q.most
      · have acc1 : AccS G W fm ks T (.nx (env.set i (.hot (ds ++ [d])))) := by simpa [hm] using acc1
        refine ⟨p, vs, v, rfl, rfl, s1 _ _ hH, most_lt (by rw [rr.1]; exact hm), acc1 hs _ _ (E1.writeSlot q trivial hσ hp trivial ?_)⟩
        refine ⟨p, vs ++ [v], hσ, hp, hn0, upd_same, ?_⟩
        exact ((rr.later s1).append (Reps.cons (o1.clean E hd) Reps.nil)).upd (EnvOk.notCold hp)
      · have acc1 : AccS G W fm ks T .bad := by simpa [hm] using acc1
        exact acc1.elim
theorem s_ext {i : Nat} {x : Str} {px pa pc : Pos} (he : PE X e (tE G W ea)) (hN : X.N[i]? = some x := by rfl) (hv : Vis X.env.scope x := by first | exact Or.inl rfl | exact Or.inr (Or.inl rfl) | exact Or.inr (Or.inr rfl))
    (hd : (x == ("__debug__" : Str)) = false := by decide) (hcd : (x == ("__classdict__" : Str)) = false := by decide)
    (hbase : attributeBase (.Name x px) "extend" X.env (eval (.Name x px) X.env) = eval (.Name x px) X.env := by rfl)
    (hfew : ((backTo pc (starEach (e :: []) X.env)).all (fun x => !x.1) && (backToKw pc (keywordEach [] X.env)).all (fun x => x.1.isSome)
      && decide ((e :: []).length + ([] : List Keyword).length + (if ([] : List Keyword).isEmpty then 0 else 1) < 30)) = true := by rfl)
    (hline : (pa.endLine == pc.line) = true := by rfl) (hst : starEach (e :: []) X.env = (false, eval e X.env) :: starEach [] X.env := by rfl) (hplain : (backTo pc (starEach [] X.env)).any (·.1) = false := by rfl)
    (hs : swapsWith (.Call (.Attribute (.Name x px) "extend" pa) [e] [] pc) none pos.line X.env = pure false := by rfl) :
    PS X (.Expr (.Call (.Attribute (.Name x px) "extend" pa) [e] [] pc) pos) (tS G W (Q.sext i ea)) :=
  PS.conv (ps_expr (pe_bm PySem.F.plainAttrs_list PySem.F.slot_list_extend PySem.F.type_list_extend mt_extend (pv i hN hv hd hcd) (pa_cons he pa_nil hst) hbase hfew hline hst hplain) hs) fun T σ H ⟨fm, hs, env, ks, E, acc⟩ => by
    obtain ⟨ds, q, acc⟩ := hot_slot acc
    obtain ⟨p, vs, hσ, hp, hn0, hH, rr⟩ := hot_var E q
    refine ⟨_, hσ, .inl ⟨rfl, _, SqL.of hH⟩, tE_st E (accS_bind E acc) fun d c v H1 E1 s1 o1 acc1 => ?_⟩
    cases c with
    | fresh =>
      cases d with
      | lst ys =>
        by_cases hm : ds.length + ys.length ≤ Q.most
        · have acc1 : AccS G W fm ks T (.nx (env.set i (.hot (ds ++ ys)))) := by simpa [hm] using acc1
          obtain ⟨p2, us, rfl, e2, r2⟩ := o1.lst
          refine ⟨p, p2, vs, us, rfl, rfl, s1 _ _ hH, e2, most_line (by rw [rr.1, r2.1]; exact hm), acc1 hs _ _ (E1.writeSlot q trivial hσ hp trivial ?_)⟩
          exact ⟨p, vs ++ us, hσ, hp, hn0, upd_same, ((rr.later s1).append r2).upd (EnvOk.notCold hp)⟩
        · have acc1 : AccS G W fm ks T .bad := by simpa [hm] using acc1
          exact acc1.elim
      | _ => exact acc1.elim
    | _ => cases d <;> exact acc1.elim
theorem s_clear {i : Nat} {x : Str} {px pa pc : Pos} (hN : X.N[i]? = some x := by rfl) (hv : Vis X.env.scope x := by first | exact Or.inl rfl | exact Or.inr (Or.inl rfl) | exact Or.inr (Or.inr rfl))
    (hd : (x == ("__debug__" : Str)) = false := by decide) (hcd : (x == ("__classdict__" : Str)) = false := by decide)
    (hbase : attributeBase (.Name x px) "clear" X.env (eval (.Name x px) X.env) = eval (.Name x px) X.env := by rfl) (hline : (pa.endLine == pc.line) = true := by rfl)
    (hs : swapsWith (.Call (.Attribute (.Name x px) "clear" pa) [] [] pc) none pos.line X.env = pure false := by rfl) :
    PS X (.Expr (.Call (.Attribute (.Name x px) "clear" pa) [] [] pc) pos) (tS G W (Q.sclear i)) :=
  PS.conv (ps_expr (pe_bm0 PySem.F.plainAttrs_list PySem.F.slot_list_clear PySem.F.type_list_clear mt_clear (pv i hN hv hd hcd) hbase hline) hs) fun T σ H ⟨fm, hs, env, ks, E, acc⟩ => by
    have e : Q.sclear i env = (match env[i]? with
      | some (.hot _) => Ctl.nx (env.set i (.hot []))
      | _ => .bad) := rfl
    rw [e] at acc
    cases q : env[i]? with
    | none => rw [q] at acc; exact acc.elim
    | some s =>
      rw [q] at acc
      cases s with
      | hot ds =>
        obtain ⟨p, vs, hσ, hp, hn0, hH, rr⟩ := hot_var E q
        exact ⟨_, hσ, .inl ⟨rfl, _, SqL.of hH⟩, p, vs, rfl, rfl, hH, acc hs _ _ (E.writeSlot q trivial hσ hp trivial ⟨p, [], hσ, hp, hn0, upd_same, Reps.nil⟩)⟩
      | _ => exact acc.elim
theorem s_put {i : Nat} {x : Str} {px tpos : Pos} (he : PE X e (tE G W ea)) (hb : PE X b (tE G W eb)) (hN : X.N[i]? = some x := by rfl) (hv : Vis X.env.scope x := by first | exact Or.inl rfl | exact Or.inr (Or.inl rfl) | exact Or.inr (Or.inr rfl))
    (hd : (x == ("__debug__" : Str)) = false := by decide) (hcd : (x == ("__classdict__" : Str)) = false := by decide)
    (ha : ∀ v, assign (.Subscript (.Name x px) b tpos) X.env v = (holding [v] (eval (.Name x px) X.env) >>= fun ov => holding [v, ov] (eval b X.env) >>= fun iv => standAt tpos >>= fun _ => holding [v, ov, iv] (setItem ov iv v) >>= fun _ => release [v, ov, iv] []) := by intro _; rfl)
    (hs : swapsWithSole [.Subscript (.Name x px) b tpos] e pos.line X.env = pure false := by rfl) (hw : swappedStores [.Subscript (.Name x px) b tpos] e X.env = pure none := by rfl)
    (h1 : (assignEach [.Subscript (.Name x px) b tpos] X.env).map (·.2) = [assign (.Subscript (.Name x px) b tpos) X.env] := by rfl) :
    PS X (.Assign [.Subscript (.Name x px) b tpos] e pos) (tS G W (Q.sput i eb ea)) :=
  PS.conv (ps_asg he (pg_sub (pv i hN hv hd hcd) hb set_list ha) hs hw h1) fun T σ H ⟨fm, hs, env, ks, E, acc⟩ => by
    obtain ⟨ds, q, acc⟩ := hot_slot acc
    obtain ⟨p, vs, hσ, hp, hn0, hH, rr⟩ := hot_var E q
    refine tE_st E (accS_bind E acc) fun d c v H1 E1 s1 o1 acc1 => ⟨_, hσ, ?_⟩
    cases hd : Q.dirty c d with
    | true => simp only [hd] at acc1; exact acc1.elim
    | false =>
      simp only [hd] at acc1
      refine tE_st E1 (accS_bind E1 acc1) fun d2 c2 v2 H2 E2 s2 o2 acc2 => ?_
      cases d2 with
      | int z =>
        cases (o2.anyR E1)
        cases hj : Q.ixN ds.length z with
        | none => simp only [hj] at acc2; exact acc2.elim
        | some j =>
          simp only [hj] at acc2
          have s02 := s1.trans s2
          refine ⟨p, vs, z, j, rfl, rfl, s02 _ _ hH, by rw [rr.1]; exact hj, acc2 hs _ _ (E2.writeSlot q trivial hσ hp trivial ?_)⟩
          exact ⟨p, vs.set j v, hσ, hp, hn0, upd_same, ((rr.later s02).set ((o1.clean E hd).later s2) j).upd (EnvOk.notCold hp)⟩
      | _ => exact acc2.elim
/-- o.f = a -/
theorem s_fld {n i k : Nat} {x nm : Str} {px tpos : Pos} (hK : X.K = G.K) (C : ClsOk G n) (he : PE X e (tE G W ea)) (hN : X.N[i]? = some x := by rfl) (hk : (G.names n)[k]? = some nm := by rfl) (hv : Vis X.env.scope x := by first | exact Or.inl rfl | exact Or.inr (Or.inl rfl) | exact Or.inr (Or.inr rfl))
    (hd : (x == ("__debug__" : Str)) = false := by decide) (hcd : (x == ("__classdict__" : Str)) = false := by decide)
    (hs : swapsWith e (some (.Attribute (.Name x px) nm tpos)) pos.line X.env = pure false := by rfl) :
    PS X (.Assign [.Attribute (.Name x px) nm tpos] e pos) (tS G W (Q.sfld n i k ea)) :=
  PS.conv (ps_fld (pv i hN hv hd hcd) he hs) fun T σ H ⟨fm, hs, env, ks, E, acc⟩ => by
    have few : ∀ vs : List V, ((G.names n).zip vs).length < 1000 := fun vs => by
      rw [List.length_zip]
      exact Nat.lt_of_le_of_lt (Nat.min_le_left _ _) C.few
    have put : ∀ {ds es : List D} {vs : List V} {d : D} {v : V} {A : Reg} {H : Hp}, Reps G A H vs ds → Rep G A H v d → Q.putK n k ds d = some es → ∃ us, putF nm v ((G.names n).zip vs) = (G.names n).zip us ∧ Reps G A H us es := fun {ds es vs d v A H} rr rv h => by
      by_cases h1 : k < ds.length
      · have h : some (ds.set k d) = some es := by simpa [h1] using h
        cases h
        exact ⟨vs.set k v, putF_set C.nd hk (by rw [rr.1]; exact h1), rr.set rv k⟩
      · by_cases h2 : k = ds.length
        · have h : some (ds ++ [d]) = some es := by simpa [h1, h2] using h
          cases h
          exact ⟨vs ++ [v], putF_app C.nd (by rw [rr.1, ← h2]; exact hk), rr.append (Reps.cons rv Reps.nil)⟩
        · exfalso
          simp [h1, h2] at h
    have e : Q.sfld n i k ea env = (match env[i]? with
      | some (.slf m ds) => if m = n then (ea env).bindS env fun d c => (if Q.dirty c d then .bad else match Q.putK n k ds d with
        | some es => .nx (env.set i (.slf n es))
        | none => .bad) else .bad
      | some (.hob m ds) => if m = n then (ea env).bindS env fun d c => (if Q.dirty c d then .bad else match Q.putK n k ds d with
        | some es => .nx (env.set i (.hob n es))
        | none => .bad) else .bad
      | _ => .bad) := rfl
    rw [e] at acc
    cases q : env[i]? with
    | none => rw [q] at acc; exact acc.elim
    | some s =>
      rw [q] at acc
      cases s with
      | hob m ds =>
        by_cases hm : m = n
        · subst hm
          simp only [if_true] at acc
          obtain ⟨p, dx, vs, hσ, hp, hn, hH, rr⟩ := E.slot i _ q
          refine tE_st E (accS_bind E acc) fun d c v H1 E1 s1 o1 acc1 => ⟨_, hσ, ?_⟩
          cases hd : Q.dirty c d with
          | true => simp only [hd] at acc1; exact acc1.elim
          | false =>
            simp only [hd] at acc1
            cases z : Q.putK m k ds d with
            | none => simp only [z] at acc1; exact acc1.elim
            | some es =>
              simp only [z] at acc1
              obtain ⟨us, h1, h2⟩ := put (rr.later s1) (o1.clean E hd) z
              refine ⟨p, _, dx, _, rfl, s1 _ _ hH, hK ▸ C.cl, hK ▸ C.no _ (List.mem_of_getElem? hk), few vs, ?_⟩
              rw [h1]
              exact acc1 hs _ _ (E1.writeSlot q trivial hσ hp trivial ⟨p, dx, us, hσ, hp, hn, upd_same, h2.upd (EnvOk.notCold hp)⟩)
        · simp only [if_neg hm] at acc
          exact acc.elim
      | slf m ds =>
        by_cases hm : m = n
        · subst hm
          simp only [if_true] at acc
          obtain ⟨p, dx, vs, hσ, hp, hn, hH, rr⟩ := E.slot i _ q
          refine tE_st E (accS_bind E acc) fun d c v H1 E1 s1 o1 acc1 => ⟨_, hσ, ?_⟩
          cases hd : Q.dirty c d with
          | true => simp only [hd] at acc1; exact acc1.elim
          | false =>
            simp only [hd] at acc1
            cases z : Q.putK m k ds d with
            | none => simp only [z] at acc1; exact acc1.elim
            | some es =>
              simp only [z] at acc1
              obtain ⟨us, h1, h2⟩ := put (rr.later s1) (o1.clean E hd) z
              refine ⟨p, _, dx, _, rfl, s1 _ _ hH, hK ▸ C.cl, hK ▸ C.no _ (List.mem_of_getElem? hk), few vs, ?_⟩
              rw [h1]
              exact acc1 hs _ _ (E1.writeSlot q trivial hσ hp trivial ⟨p, dx, us, hσ, hp, hn, upd_same, h2.upd (EnvOk.notCold hp)⟩)
        · simp only [if_neg hm] at acc
          exact acc.elim
      | _ => exact acc.elim
/-! ### loops -/
variable {tg iter : Expr} {body : List Stmt} {ev : Q.XI} {p : Pat}
theorem s_for (hp : PassesOwn (model X.prog X.w) X.A X.env X.xe) (hc : X.calm = true) (hi : PI X tg iter (tI G ev)) (hg : PG X tg (tG G p)) (hb : PSs X body (tS G W sb)) (hs : ∀ x, foldedSetIterable iter X.env x = pure x := by intro _; rfl) :
    PS X (.For tg iter body [] pos) (tS G W (Q.sfor ev p sb)) :=
  PS.conv (ps_for hp hc hi hg hb hs) fun T σ H ⟨fm, hs, env, ks, E, acc⟩ => by
    have e : Q.sfor ev p sb env = (match ev env with
      | .ok ds _ => Q.forL p sb ds env
      | _ => Ctl.bad) := rfl
    rw [e] at acc
    refine ⟨fm, hs, env, E.drop, ?_⟩
    cases q : ev env with
    | exc k fs => rw [q] at acc; exact acc.elim
    | bad => rw [q] at acc; exact acc.elim
    | ok ds t =>
      rw [q] at acc
      intro J src H1 s1 hsrc ok
      refine ⟨fun i m σ H => i + m = ds.length ∧ ∃ hs env, EnvOk G fm hs env (src ++ ks) σ H ∧ AccS G W fm ks T (Q.forL p sb (ds.drop i) env), ⟨ds.length, by omega, hs, env, ?_, by simpa using acc⟩, ?_⟩
      · exact { E.later s1 with fr := fun k m => (List.mem_append.mp m).elim (hsrc k) ((E.later s1).fr k) }
      · rintro i m σ H ⟨him, hs, env, E, acc⟩
        obtain ⟨o1, o2, o3⟩ := ok (Cold fm hs) H i fun s m => E.fr s (List.mem_append_left _ m)
        have dr : ∀ {hs e σ H}, EnvOk G fm hs e (src ++ ks) σ H → EnvOk G fm hs e ks σ H := fun E => { E with fr := fun k m => E.fr k (List.mem_append_right _ m) }
        by_cases hi : i < ds.length
        · right
          rw [List.drop_eq_getElem_cons hi, Q.forL] at acc
          cases q : p.put ds[i] env with
          | none => rw [q] at acc; exact acc.elim
          | some e1 =>
            rw [q] at acc
            simp only at acc
            refine ⟨o1 hi, fun σ' H' => ∃ hs e2, EnvOk G fm hs e2 (src ++ ks) σ' H' ∧ AccS G W fm ks T (Q.forL p sb (ds.drop (i + 1)) e2), fun σ' H' ⟨hs, e2, E2, a2⟩ => ⟨m - 1, by omega, by omega, hs, e2, E2, a2⟩, fun x H' y => ?_⟩
            obtain ⟨s2, rx⟩ := o3 x H' _ y (List.getElem?_eq_getElem hi)
            have E2 := E.later s2
            refine ⟨fm, hs, env, src ++ ks, ds[i], e1, E2, rx.wider fun a h => h.elim id fun h => E.newCold h, q, fun σ2 E3 _ => ⟨fm, hs, e1, src ++ ks, E3, ?_⟩⟩
            cases q2 : sb e1 with
            | nx e2 => rw [q2] at acc; exact fun hs σ H E => ⟨hs, e2, E, acc⟩
            | ct e2 => rw [q2] at acc; exact fun hs σ H E => ⟨hs, e2, E, acc⟩
            | bk e2 => rw [q2] at acc; exact fun hs σ H E => acc hs σ H (dr E)
            | rt d c e2 => rw [q2] at acc; exact fun v hs σ H E r => acc v hs σ H (dr E) r
            | exc k fs e2 => rw [q2] at acc; exact fun cls dd hs σ H E x => acc cls dd hs σ H (dr E) x
            | bad => rw [q2] at acc; exact acc.elim
        · left
          have hi' : i = ds.length := by omega
          refine ⟨o2 hi', ?_⟩
          rw [hi', List.drop_length, Q.forL] at acc
          exact acc hs σ H (dr E)
theorem s_while {c : Expr} {N : Nat} (hp : PassesOwn (model X.prog X.w) X.A X.env X.xe) (hc : PT X c (tT G W tt)) (hb : PSs X body (tS G W sb)) : PS X (.While c body [] pos) (tS G W (Q.swhile N tt sb)) :=
  PS.conv (ps_while hp hc hb) fun T σ H ⟨fm, hs, env, ks, E, acc⟩ => by
    refine ⟨fun m σ H => ∃ hs env, EnvOk G fm hs env ks σ H ∧ AccS G W fm ks T (Q.whileN tt sb m env), ⟨N, hs, env, E, acc⟩, ?_⟩
    rintro m σ H ⟨hs, env, E, acc⟩
    cases m with
    | zero => exact acc.elim
    | succ m =>
      rw [Q.whileN] at acc
      refine tT_st E (accS_bindB E acc) fun k H1 E1 s1 acc1 => ?_
      cases k with
      | false =>
        rw [if_neg (by simp)]
        exact acc1 hs σ H1 E1
      | true =>
        rw [if_pos rfl]
        simp only [if_true] at acc1
        refine ⟨fun σ' H' => ∃ hs e2, EnvOk G fm hs e2 ks σ' H' ∧ AccS G W fm ks T (Q.whileN tt sb m e2), fun σ' H' ⟨hs, e2, E2, a2⟩ => ⟨m, Nat.lt_succ_self _, hs, e2, E2, a2⟩, fm, hs, env, ks, E1, ?_⟩
        cases q2 : sb env with
        | nx e2 => rw [q2] at acc1; exact fun hs σ H E => ⟨hs, e2, E, acc1⟩
        | ct e2 => rw [q2] at acc1; exact fun hs σ H E => ⟨hs, e2, E, acc1⟩
        | bk e2 => rw [q2] at acc1; exact acc1
        | rt d c e2 => rw [q2] at acc1; exact acc1
        | exc k fs e2 => rw [q2] at acc1; exact acc1
        | bad => rw [q2] at acc1; exact acc1.elim
end
end QW

set_option Elab.async false
set_option linter.all false
set_option maxRecDepth 100000
set_option maxHeartbeats 4000000
namespace QW
open PySem PySem.Spec PyProof.Rows L2
open Q (D S R RA RB Ctl Cl Pat)
/-! ### defs -/
section
variable {G : Cfg} {A : Reg} {H : Hp} {vs : List V} {ds : List D} {N : List Str}
theorem enter_get (vs : List V) (n i : Nat) : (vs.map some ++ List.replicate (n - vs.length) none)[i]? = if i < vs.length then (vs[i]?).map some else if i < n then some none else none := by
  by_cases h : i < vs.length
  · rw [if_pos h, List.getElem?_append_left (by simpa using h), List.getElem?_map]
  · rw [if_neg h, List.getElem?_append_right (by simpa using h), List.length_map, List.getElem?_replicate]
    by_cases h2 : i < n
    · rw [if_pos h2, if_pos (by omega)]
    · rw [if_neg h2, if_neg (by omega)]
/-- the slots at a def's entry -/
theorem env_enter (r : Reps G A H vs ds) (hl : ds.length ≤ N.length) : EnvOk G ⟨A, H, [], fun _ => False⟩ [] (Q.enter N.length ds) [] (start N vs) H where
  ex := fun a o _ e => e
  len := by
    show (vs.map some ++ List.replicate (N.length - vs.length) none).length = (ds.map S.cold ++ List.replicate (N.length - ds.length) S.no).length
    simp [r.1]
  bor := fun a h => h.elim
  ms0 := fun a h => by simp at h
  msh := fun a h => by simp at h
  hn := fun a h => by simp at h
  slot := fun i s q => by
    have q : (ds.map S.cold ++ List.replicate (N.length - ds.length) S.no)[i]? = some s := q
    show SlotOk G _ _ H s (vs.map some ++ List.replicate (N.length - vs.length) none)[i]?
    by_cases h : i < ds.length
    · rw [List.getElem?_append_left (by simpa using h), List.getElem?_map, List.getElem?_eq_getElem h] at q
      cases q
      obtain ⟨v, h1, h2⟩ := r.get (List.getElem?_eq_getElem h)
      refine ⟨v, ?_, h2.wider fun a ha => ⟨.inl ha, fun z => by simp at z⟩⟩
      rw [enter_get, if_pos (by rw [r.1]; exact h), h1]
      rfl
    · rw [List.getElem?_append_right (by simpa using h), List.getElem?_replicate] at q
      split at q
      · cases q; trivial
      · cases q
  inj := fun i j s t p a b c d e f => by
    have a : (ds.map S.cold ++ List.replicate (N.length - ds.length) S.no)[i]? = some s := a
    by_cases h : i < ds.length
    · rw [List.getElem?_append_left (by simpa using h), List.getElem?_map, List.getElem?_eq_getElem h] at a
      cases a
      exact c.elim
    · rw [List.getElem?_append_right (by simpa using h), List.getElem?_replicate] at a
      split at a
      · cases a; exact c.elim
      · cases a
  fr := fun k h => by simp at h
/-- what a def gives back, as its caller takes it -/
theorem rt_out {hs : List Addr} {env : Q.Env} {ks : List (V × D)} {σ : L2.St} {H' : Hp} {v : V} {d : D} {c : Cl} (E : EnvOk G ⟨A, H, [], fun _ => False⟩ hs env ks σ H') (r : RtV G ⟨A, H, [], fun _ => False⟩ hs H' v d c) : RtOk G A H H' v d (Q.outC c) := by
  have new : ∀ a ∈ hs, H a = none := fun a m => (E.hn a m).1.elim (fun z => by simp at z) id
  cases c with
  | cold => exact Rep.wider r fun a h => h.1
  | taint => exact Rep.wider r fun a h => h.elim id fun h => h.elim (fun m => .inr (new a m)) fun z => z.elim
  | fresh =>
    rcases r with ⟨p, vs, ds, a, b, c, d, e⟩ | ⟨p, dx, vs, k, ds, a, b, c, d, e⟩
    · exact .inl ⟨p, vs, ds, a, b, c, d, e.mono (Same.refl _) fun a h => ⟨h.1.1, h.2⟩⟩
    · exact .inr ⟨p, dx, vs, k, ds, a, b, c, d, e.mono (Same.refl _) fun a h => ⟨h.1.1, h.2⟩⟩
  | hot =>
    rcases r with ⟨p, vs, ds, a, b, c, d, e⟩ | ⟨p, dx, vs, k, ds, a, b, c, d, e⟩
    · exact .inl ⟨p, vs, ds, a, b, new p c, d, e.mono (Same.refl _) fun a h => ⟨h.1, fun z => h.2 (z ▸ c)⟩⟩
    · exact .inr ⟨p, dx, vs, k, ds, a, b, new p c, d, e.mono (Same.refl _) fun a h => ⟨h.1, fun z => h.2 (z ▸ c)⟩⟩
theorem same_of {hs : List Addr} {env : Q.Env} {ks : List (V × D)} {σ : L2.St} {H' : Hp} (E : EnvOk G ⟨A, H, [], fun _ => False⟩ hs env ks σ H') : Same H H' := fun a o e => E.ex a o (by simp) e
end
section
variable {P : Program} {w : World} {G : Cfg} {mg : Str → Option Value} {base : Heap}
/-- the wish of a def's caller, whatever the slots -/
abbrev wE (E : XK) : WX := fun c d _ H => E c d H
abbrev cxQ (P : Program) (w : World) (K : PySem.W.Frag) (mg : Str → Option Value) (base : Heap) (N : List Str) (qual : Str) (scope : Scope) (f : Addr) (cdv : Value) (A : Around) (outer : List Env) (s : Shared) (H : Hp) (E : XK) : Cx := cxOf (L2.CX P w) P w K mg base N qual scope f cdv A outer s H E
/-- THE RULE for a def: its body's form -/
theorem fnQ {x qual : Str} {st : Stmt} {f : Addr} {fd : FuncData} {N ps : List Str} {k : Nat} {ev : Q.XS} (F : Fun G.K x qual st f fd) (S : FnScope N ps (defScope st)) (hl : ps.length ≤ N.length)
    (hb : ∀ (cdv : Value) (A : Around) (outer : List Env) (s : Shared) (H : Hp) (E : XK), Room k (A.deeper (envOfC qual (defScope st) s.heap.objs.size f cdv)) →
      PSs (cxQ P w G.K mg base N qual (defScope st) f cdv A outer s H E) (defBody st) (tS G (wE E) ev)) :
    FnOk P w G.K mg base (L2.CX P w) (k + 1) f fd ps (spT G ps.length (Q.fn N.length ev)) :=
  F.okX S (fun vs H Q E h => spT_len h) fun cdv A outer s H vs P' E hr h => by
    refine ⟨_, hb cdv A outer s H E hr, ?_⟩
    obtain ⟨A0, ds, hn, r, h⟩ := h
    refine ⟨_, [], Q.enter N.length ds, [], env_enter r (by rw [← r.1, hn]; exact hl), ?_⟩
    have e : Q.fn N.length ev ds = Q.leave (ev (Q.enter N.length ds)) := rfl
    rw [e] at h
    cases q : ev (Q.enter N.length ds) with
    | nx e => rw [q] at h; exact fun hs σ H' E' => h .non H' (same_of E') Rep.non
    | rt d c e => rw [q] at h; exact fun v hs σ H' E' r => h v H' (same_of E') (rt_out E' r)
    | exc k fs e => rw [q] at h; exact fun cls dd hs σ H' E' x => h cls dd H' (same_of E') (x.mono (Same.refl _) (fun a h => h.1) fun a h => h.1)
    | bk e => rw [q] at h; exact h.elim
    | ct e => rw [q] at h; exact h.elim
    | bad => rw [q] at h; exact h.elim
theorem tail_get {α : Type} {ds : List α} {g : α → S} {m i : Nat} {s : S} (h : (ds.map g ++ List.replicate m S.no)[i]? = some s) : (∃ d, ds[i]? = some d ∧ s = g d) ∨ s = .no := by
  by_cases hi : i < ds.length
  · rw [List.getElem?_append_left (by simpa using hi), List.getElem?_map, List.getElem?_eq_getElem hi] at h
    exact .inl ⟨ds[i], List.getElem?_eq_getElem hi, (Option.some.inj h).symm⟩
  · rw [List.getElem?_append_right (by simpa using hi), List.getElem?_replicate] at h
    split at h
    · exact .inr (Option.some.inj h).symm
    · cases h
/-- the slots at an __init__'s entry; keep: whether the arguments may be kept in the new object -/
def enterI (c n : Nat) (keep : Bool) (ds : List D) : Q.Env := .slf c [] :: (ds.map (fun d => if keep then S.cold d else .bor d) ++ List.replicate (n - 1 - ds.length) .no)
theorem env_init {A : Reg} {H : Hp} {x dx : Addr} {ws : List V} {ds : List D} {N : List Str} {c : Nat} (keep : Bool) (hx : H x = some (.ins (G.cls c) dx [])) (hA : ¬ A x) (hd : ∀ a, A a → H a ≠ none) (r : Reps G A H ws ds) (hl : ds.length < N.length) :
    EnvOk G ⟨fun a => keep = true ∧ A a, H, [x], fun a => keep = false ∧ A a⟩ [x] (enterI c N.length keep ds) [] (start N (.ref x :: ws)) H where
  ex := fun a o _ e => e
  len := by
    show ((V.ref x :: ws).map some ++ List.replicate (N.length - (V.ref x :: ws).length) none).length = (enterI c N.length keep ds).length
    simp [enterI, r.1]
    omega
  bor := fun a h => ⟨hd a h.2, fun m => hA (by simp at m; rw [← m]; exact h.2)⟩
  ms0 := fun a h => by simp at h; subst h; exact fun z => nomatch (hx.symm.trans z)
  msh := fun a h => h
  hn := fun a h => by simp at h; subst h; exact ⟨.inl (by simp), fun z => nomatch (hx.symm.trans z)⟩
  slot := fun i s q => by
    show SlotOk G _ _ H s ((V.ref x :: ws).map some ++ List.replicate (N.length - (V.ref x :: ws).length) none)[i]?
    cases i with
    | zero =>
      cases q
      exact ⟨x, dx, [], rfl, by simp, by simp, by rw [List.zip_nil_right]; exact hx, Reps.nil⟩
    | succ i =>
      rw [enterI, List.getElem?_cons_succ] at q
      rcases tail_get q with ⟨d, h, rfl⟩ | rfl
      · obtain ⟨v, h1, h2⟩ := r.get h
        have hi : i + 1 < (V.ref x :: ws).length := by rw [List.length_cons, r.1]; have := (List.getElem?_eq_some_iff.mp h).1; omega
        rw [enter_get, if_pos hi, List.getElem?_cons_succ, h1]
        cases keep with
        | true => exact ⟨v, rfl, h2.wider fun a ha => ⟨.inl ⟨rfl, ha⟩, fun z => hA (by simp at z; rw [← z]; exact ha)⟩⟩
        | false => exact ⟨v, rfl, h2.wider fun a ha => ⟨rfl, ha⟩⟩
      · trivial
  inj := fun i j s t p a b c' d' e f => by
    have one : ∀ (i : Nat) s, (enterI c N.length keep ds)[i]? = some s → isHot s → i = 0 := fun i s a c => by
      cases i with
      | zero => rfl
      | succ i =>
        rw [enterI, List.getElem?_cons_succ] at a
        rcases tail_get a with ⟨d, h, rfl⟩ | rfl
        · cases keep <;> exact c.elim
        · exact c.elim
    rw [one i s a c', one j t b d']
  fr := fun k h => by simp at h
theorem initQ {x qual : Str} {st : Stmt} {f : Addr} {fd : FuncData} {N ps : List Str} {k c : Nat} {ev : Q.XS} {g : List D → R} (keep : Bool) (F : Fun G.K x qual st f fd) (S : FnScope N ps (defScope st)) (hl : ps.length ≤ N.length) (h0 : 0 < ps.length)
    (hg : ∀ ds, g ds = Q.leaveI c (ev (enterI c N.length keep ds)))
    (hb : ∀ (cdv : Value) (A : Around) (outer : List Env) (s : Shared) (H : Hp) (E : XK), Room k (A.deeper (envOfC qual (defScope st) s.heap.objs.size f cdv)) →
      PSs (cxQ P w G.K mg base N qual (defScope st) f cdv A outer s H E) (defBody st) (tS G (wE E) ev)) :
    FnOk P w G.K mg base (L2.CX P w) (k + 1) f fd ps (spI G c (ps.length - 1) keep g) :=
  F.okX S (fun vs H Q E h => by rw [spI_len h]; omega) fun cdv A outer s H vs P' E hr h => by
    refine ⟨_, hb cdv A outer s H E hr, ?_⟩
    obtain ⟨x, dx, ws, A0, ds, rfl, hn, hx, hA, hd, r, h⟩ := h
    refine ⟨_, [x], enterI c N.length keep ds, [], env_init keep hx hA hd r (by rw [← r.1, hn]; omega), ?_⟩
    rw [hg ds] at h
    have sm : ∀ {hs env ks σ H'}, EnvOk G ⟨fun a => keep = true ∧ A0 a, H, [x], fun a => keep = false ∧ A0 a⟩ hs env ks σ H' → ∀ a o, a ≠ x → H a = some o → H' a = some o := fun E' a o n e => E'.ex a o (by simpa using n) e
    cases q : ev (enterI c N.length keep ds) with
    | nx e =>
      rw [q] at h
      cases e with
      | nil => exact h.elim
      | cons s e =>
        cases s with
        | slf k fs =>
          by_cases hk : k = c
          · subst hk
            have h : ∃ fs', D.obj k fs = .obj k fs' ∧ ∀ H' dx' vs', (∀ a o, a ≠ x → H a = some o → H' a = some o) → H' x = some (.ins (G.cls k) dx' ((G.names k).zip vs')) → Reps G (fun a => ((keep = true ∧ A0 a) ∨ H a = none) ∧ a ≠ x) H' vs' fs' → P' .non H' := by
              simpa [Q.leaveI] using h
            obtain ⟨fs', e1, h⟩ := h
            cases e1
            intro hs σ H' E'
            obtain ⟨p, dx', vs', hσ, hp, hm, hH, rr⟩ := E'.slot 0 _ rfl
            have hpx : p = x := by simpa using hm
            subst hpx
            exact h H' dx' vs' (sm E') hH (rr.mono (Same.refl _) fun a h => ⟨h.1, fun z => h.2 (z ▸ hp)⟩)
          · simp [Q.leaveI, hk] at h
        | _ => exact h.elim
    | exc k fs e =>
      rw [q] at h
      exact fun cls dd hs σ H' E' x => h cls dd H' (sm E') (x.mono (Same.refl _) (fun a h => h.1.elim (fun z => .inl z.2) .inr) fun a h => h.1)
    | rt d c e => rw [q] at h; exact h.elim
    | bk e => rw [q] at h; exact h.elim
    | ct e => rw [q] at h; exact h.elim
    | bad => rw [q] at h; exact h.elim
end
end QW

set_option Elab.async false
set_option linter.all false
set_option maxRecDepth 100000
set_option maxHeartbeats 4000000
namespace QW
open PySem PySem.Spec PyProof.Rows L2
open Q (D S R RA RB Ctl Cl Pat)
/-! ### isinstance -/
section
variable {X : Cx} {W : WX} {G : Cfg} {a : Expr} {ea : Q.X} {p p1 p2 pos : Pos}
/-- the type of a datum that is no object -/
inductive TyD : D → String → Prop
  | non : TyD .non "NoneType"
  | bl (b : Bool) : TyD (.bl b) "bool"
  | int (i : Int) : TyD (.int i) "int"
  | str (s : Str) : TyD (.str s) "str"
  | tup (xs : List D) : TyD (.tup xs) "tuple"
  | lst (xs : List D) : TyD (.lst xs) "list"
theorem tyX_of {A : Reg} {H : Hp} {d : D} {v : V} {n : String} (r : Rep G A H v d) (t : TyD d n) : TyX G.K H v (.type n) := by
  cases t <;> cases r
  · exact .base .non
  · exact .base (.bl _)
  · exact .base (.int _)
  · exact .base (.str _)
  · rename_i h _ _; exact .base (.tup h)
  · rename_i h _ _; exact .base (.lst h)
/-- q tells the answer for each type -/
def IsQ (q : D → Option Bool) (T : String) : Prop := ∀ d b, q d = some b → ∃ n, TyD d n ∧ kitB n T = some b
theorem isq_tup : IsQ Q.isTup "tuple" := fun d b h => by
  cases d <;> simp [Q.isTup] at h <;> subst h
  · exact ⟨_, .non, by decide +kernel⟩
  · exact ⟨_, .bl _, by decide +kernel⟩
  · exact ⟨_, .int _, by decide +kernel⟩
  · exact ⟨_, .str _, by decide +kernel⟩
  · exact ⟨_, .tup _, by decide +kernel⟩
  · exact ⟨_, .lst _, by decide +kernel⟩
theorem isq_lst : IsQ Q.isLst "list" := fun d b h => by
  cases d <;> simp [Q.isLst] at h <;> subst h
  · exact ⟨_, .non, by decide +kernel⟩
  · exact ⟨_, .bl _, by decide +kernel⟩
  · exact ⟨_, .int _, by decide +kernel⟩
  · exact ⟨_, .str _, by decide +kernel⟩
  · exact ⟨_, .tup _, by decide +kernel⟩
  · exact ⟨_, .lst _, by decide +kernel⟩
theorem isq_bl : IsQ Q.isBl "bool" := fun d b h => by
  cases d <;> simp [Q.isBl] at h <;> subst h
  · exact ⟨_, .non, by decide +kernel⟩
  · exact ⟨_, .bl _, by decide +kernel⟩
  · exact ⟨_, .int _, by decide +kernel⟩
  · exact ⟨_, .str _, by decide +kernel⟩
  · exact ⟨_, .tup _, by decide +kernel⟩
  · exact ⟨_, .lst _, by decide +kernel⟩
theorem isq_int : IsQ Q.isInt "int" := fun d b h => by
  cases d <;> simp [Q.isInt] at h <;> subst h
  · exact ⟨_, .non, by decide +kernel⟩
  · exact ⟨_, .bl _, by decide +kernel⟩
  · exact ⟨_, .int _, by decide +kernel⟩
  · exact ⟨_, .str _, by decide +kernel⟩
  · exact ⟨_, .tup _, by decide +kernel⟩
  · exact ⟨_, .lst _, by decide +kernel⟩
theorem isq_str : IsQ Q.isStr "str" := fun d b h => by
  cases d <;> simp [Q.isStr] at h <;> subst h
  · exact ⟨_, .non, by decide +kernel⟩
  · exact ⟨_, .bl _, by decide +kernel⟩
  · exact ⟨_, .int _, by decide +kernel⟩
  · exact ⟨_, .str _, by decide +kernel⟩
  · exact ⟨_, .tup _, by decide +kernel⟩
  · exact ⟨_, .lst _, by decide +kernel⟩
theorem isi_some {q : D → Option Bool} {d : D} {fm : Fm} {hs : List Addr} {σ : L2.St} {H : Hp} {P : D → Cl → V → Hp → Prop} (h : AccR G W fm hs σ H (match q d with
    | some b => R.ok (.bl b) .cold
    | none => .bad) P) : ∃ b, q d = some b ∧ AccR G W fm hs σ H (.ok (.bl b) .cold) P := by
  cases e : q d with
  | none => rw [e] at h; exact h.elim
  | some b => rw [e] at h; exact ⟨b, rfl, h⟩
theorem q_isi {q : D → Option Bool} {T : String} {x : Str} (hq : IsQ q T) (hK : X.K = G.K) (hm : X.mg "isinstance" = none) (hmt : X.mg x = none) (ha : PE X a (tE G W ea)) (hv : bootBuiltins x = some (.type T) := by decide +kernel) (hg : Gl X "isinstance" := by rfl) (hgt : Gl X x := by rfl)
    (hn : x ≠ "__name__" := by decide) (hdb : (x == ("__debug__" : Str)) = false := by decide)
    (he : starEach (a :: [.Name x p1]) X.env = (false, eval a X.env) :: starEach [.Name x p1] X.env := by rfl) (he2 : starEach (.Name x p1 :: []) X.env = (false, eval (.Name x p1) X.env) :: starEach [] X.env := by rfl) (hpl : (backTo pos (starEach [.Name x p1] X.env)).any (·.1) = false := by rfl) :
    PE X (.Call (.Name "isinstance" p) [a, .Name x p1] [] pos) (tE G W (Q.isi q ea)) := by
  have cr : CallR X (.builtin "isinstance") (rIsi G.K) := hK ▸ call_isi
  have ty : PE X (.Name x p1) (tC (.ty T)) := pe_bltn hgt hmt hv rfl hn hdb
  refine (pe_callB cr hg hm (by decide +kernel) (pa_cons ha (pa_cons ty pa_nil he2) he) (by decide) (by decide) he hpl).conv fun σ H P ⟨fm, hs, env, E, acc⟩ => tE_in E (acc_bind acc) fun d c v H1 E1 s1 o1 acc1 => ?_
  obtain ⟨b, e, acc2⟩ := isi_some acc1
  obtain ⟨n, t, k⟩ := hq d b e
  exact ⟨v, .ty T, _, _, b, rfl, .ty T, tyX_of (o1.anyR E) t, kit_ty k, acc2 _ H1 (Same.refl _) (Rep.bl b)⟩
/-- isinstance(x, (tuple, list)) -/
theorem q_isTL {k2} (hK : X.K = G.K) (hm : X.mg "isinstance" = none) (hm1 : X.mg "tuple" = none) (hm2 : X.mg "list" = none) (ha : PE X a (tE G W ea)) {p3 : Pos} (hg : Gl X "isinstance" := by rfl) (hg1 : Gl X "tuple" := by rfl) (hg2 : Gl X "list" := by rfl)
    (he : starEach (a :: [.Tuple [.Name "tuple" p1, .Name "list" p2] k2 p3]) X.env = (false, eval a X.env) :: starEach [.Tuple [.Name "tuple" p1, .Name "list" p2] k2 p3] X.env := by rfl)
    (he2 : starEach (.Tuple [.Name "tuple" p1, .Name "list" p2] k2 p3 :: []) X.env = (false, eval (.Tuple [.Name "tuple" p1, .Name "list" p2] k2 p3) X.env) :: starEach [] X.env := by rfl)
    (he3 : starEach (.Name "tuple" p1 :: [.Name "list" p2]) X.env = (false, eval (.Name "tuple" p1) X.env) :: starEach [.Name "list" p2] X.env := by rfl) (he4 : starEach (.Name "list" p2 :: []) X.env = (false, eval (.Name "list" p2) X.env) :: starEach [] X.env := by rfl)
    (hpl : (backTo pos (starEach [.Tuple [.Name "tuple" p1, .Name "list" p2] k2 p3] X.env)).any (·.1) = false := by rfl) :
    PE X (.Call (.Name "isinstance" p) [a, .Tuple [.Name "tuple" p1, .Name "list" p2] k2 p3] [] pos) (tE G W (Q.isi Q.isTL ea)) := by
  have cr : CallR X (.builtin "isinstance") (rIsiT G.K) := hK ▸ call_isiT
  have t1 : PE X (.Name "tuple" p1) (tC (.ty "tuple")) := pe_bltn hg1 hm1 (by decide +kernel) rfl
  have t2 : PE X (.Name "list" p2) (tC (.ty "list")) := pe_bltn hg2 hm2 (by decide +kernel) rfl
  refine (pe_callB cr hg hm (by decide +kernel) (pa_cons ha (pa_cons (pe_tup (pa_cons t1 (pa_cons t2 pa_nil he4) he3)) pa_nil he2) he) (by decide) (by decide) he hpl).conv fun σ H P ⟨fm, hs, env, E, acc⟩ => tE_in E (acc_bind acc) fun d c v H1 E1 s1 o1 acc1 => ?_
  obtain ⟨b, e, acc2⟩ := isi_some acc1
  refine ⟨by decide, fun t ht => ?_⟩
  have go : ∃ n, TyD d n ∧ PySem.W.kitAny G.K (.type n) [.type "tuple", .type "list"] = some b := by
    cases d <;> simp [Q.isTL] at e <;> subst e
    · exact ⟨_, .non, kitAny_cons (kit_ty (r := false) (by decide +kernel)) (fun _ => kitAny_cons (kit_ty (r := false) (by decide +kernel)) (fun _ => rfl) fun z => nomatch z) fun z => nomatch z⟩
    · exact ⟨_, .bl _, kitAny_cons (kit_ty (r := false) (by decide +kernel)) (fun _ => kitAny_cons (kit_ty (r := false) (by decide +kernel)) (fun _ => rfl) fun z => nomatch z) fun z => nomatch z⟩
    · exact ⟨_, .int _, kitAny_cons (kit_ty (r := false) (by decide +kernel)) (fun _ => kitAny_cons (kit_ty (r := false) (by decide +kernel)) (fun _ => rfl) fun z => nomatch z) fun z => nomatch z⟩
    · exact ⟨_, .str _, kitAny_cons (kit_ty (r := false) (by decide +kernel)) (fun _ => kitAny_cons (kit_ty (r := false) (by decide +kernel)) (fun _ => rfl) fun z => nomatch z) fun z => nomatch z⟩
    · exact ⟨_, .tup _, kitAny_cons (kit_ty (r := true) (by decide +kernel)) (fun z => nomatch z) fun _ => rfl⟩
    · exact ⟨_, .lst _, kitAny_cons (kit_ty (r := false) (by decide +kernel)) (fun _ => kitAny_cons (kit_ty (r := true) (by decide +kernel)) (fun z => nomatch z) fun _ => rfl) fun z => nomatch z⟩
  obtain ⟨n, t', k⟩ := go
  exact ⟨v, t, [.ty "tuple", .ty "list"], _, [.type "tuple", .type "list"], b, rfl, upd_same, .cons (.ty _) (.cons (.ty _) .nil), tyX_of ((o1.anyR E).later (same_new ht)) t', k, acc2 _ _ (same_new ht) (Rep.bl b)⟩
end
/-! ### a promise by another one -/
theorem spT_imp {G : Cfg} {n : Nat} {g h : List D → R} (e : ∀ ds, h ds ≠ .bad → g ds = h ds) {vs : List V} {H : Hp} {P : VK} {E : XK} (s : spT G n h vs H P E) : spT G n g vs H P E := by
  obtain ⟨A, ds, a, b, c⟩ := s
  refine ⟨A, ds, a, b, ?_⟩
  cases q : h ds with
  | bad => rw [q] at c; exact c.elim
  | ok d cl => rw [e ds (by rw [q]; exact fun z => nomatch z)]; exact c
  | exc k fs => rw [e ds (by rw [q]; exact fun z => nomatch z)]; exact c
end QW
namespace QW
open PySem PySem.Spec PyProof.Rows L2
open Q (D R)
/-! ### the ends -/
/-- a def that is never called -/
theorem fnBad {P : Program} {w : World} {K : PySem.W.Frag} {mg : Str → Option Value} {base : Heap} {CX : CXT} {G : Cfg} {k : Nat} {f : Addr} {fd : FuncData} {ps : List Str} : FnOk P w K mg base CX k f fd ps (spT G ps.length fun _ => .bad) where
  len := fun vs H Q E h => spT_len h
  run := fun A outer s H args us vs Q E hr e0 hb r h => by
    obtain ⟨_, _, _, _, h⟩ := h
    exact h.elim
def spLaw (K : PySem.W.Frag) : Sp := fun vs H P _ => ∃ (a : Addr) (ns : List Int), vs = [.ref a] ∧ SqL K H a (ns.map V.int) ∧ ns.length ≤ 63 ∧ ∀ H', P (.bl true) H'
theorem law_end {P : Program} {w : World} {G : Cfg} {mg : Str → Option Value} {base : Heap} {k : Nat} {f : Addr} {fd : FuncData} {g : List D → R} (F : FnOk P w G.K mg base (L2.CX P w) k f fd ["script"] (spT G 1 g))
    (h : ∀ ns : List Int, ns.length ≤ 63 → ∃ c, g [.frz ns] = .ok (.bl true) c) : FnOk P w G.K mg base (L2.CX P w) k f fd ["script"] (spLaw G.K) :=
  F.imp fun vs H Q E ⟨a, ns, e, hs, hl, q⟩ => by
    subst e
    obtain ⟨c, hc⟩ := h ns hl
    refine ⟨fun _ => True, [.frz ns], rfl, Reps.cons (Rep.of_frz trivial hs) Reps.nil, ?_⟩
    rw [hc]
    intro v H' s r
    have e : v = .bl true := by
      cases c with
      | fresh => rcases r with ⟨_, _, _, _, z, _⟩ | ⟨_, _, _, _, _, _, z, _⟩ <;> cases z
      | cold => exact Rep.bl_inv r
      | hot => exact Rep.bl_inv r
      | taint => exact Rep.bl_inv r
    rw [e]
    exact q H'
theorem cx_none {P : Program} {w : World} {H : Hp} {s : Shared} {e : Value} {s' : Shared} (h : L2.CX P w [] H s (fun _ _ _ => False) e s') : False := by
  obtain ⟨_, _, _, _, _, _, _, _, _, _, _, _, h⟩ := h
  exact h
end QW

set_option Elab.async false
set_option linter.all false
set_option maxRecDepth 100000
set_option maxHeartbeats 4000000
namespace QW
open PySem PySem.Spec PyProof.Rows L2
open Q (D R RA RB Ctl Cl S)
section
variable {X : Cx} {G : Cfg} {W : WX} {body : List Stmt} {h₀ : ExceptHandler} {hds : List ExceptHandler} {pos : Pos} {sb : Q.XS}
theorem accS_calm {fm : Fm} {ks : List (V × D)} {T : Ends} {r : Ctl} (h : AccS G W fm ks T (match r with
    | .exc _ _ _ => .bad
    | r => r)) : AccS G noW fm ks T r := by
  cases r with
  | exc k fs e => exact h.elim
  | _ => exact h
theorem s_tryN (hb : PSs X.nox body (tS G noW sb)) : PS X (.Try body (h₀ :: hds) [] [] pos) (tS G W (Q.stryN sb)) :=
  PS.conv (ps_try_thru0 hb) fun T σ H ⟨fm, hs, env, ks, E, acc⟩ => ⟨fm, hs, env, ks, E, accS_calm acc⟩
end
/-! ### the error that a suite holds -/
def Cfg.hold (G : Cfg) (x : Option (Addr × Value × Option Addr)) : Cfg := { G with exn := x }
section
variable {G : Cfg} {x : Option (Addr × Value × Option Addr)} {A N : Reg} {H : Hp} {v : V} {d : D} {vs : List V} {ds : List D}
theorem Rep.hold (h : Rep G A H v d) : Rep (G.hold x) A H v d := by
  induction h with
  | non => exact .non
  | bl b => exact .bl b
  | int i => exact .int i
  | str s => exact .str s
  | lst ha h hl _ ih => exact .lst ha h hl ih
  | tup ha h hl _ ih => exact .tup ha h hl ih
  | frz h => exact .frz h
  | obj ha h hl _ ih => exact .obj (G := G.hold x) ha h hl ih
theorem Rep.unhold (h : Rep (G.hold x) A H v d) : Rep G A H v d := by
  induction h with
  | non => exact .non
  | bl b => exact .bl b
  | int i => exact .int i
  | str s => exact .str s
  | lst ha h hl _ ih => exact .lst ha h hl ih
  | tup ha h hl _ ih => exact .tup ha h hl ih
  | frz h => exact .frz h
  | obj ha h hl _ ih => exact .obj ha h hl ih
theorem Reps.hold (h : Reps G A H vs ds) : Reps (G.hold x) A H vs ds := ⟨h.1, fun i v d a b => Rep.hold (h.2 i v d a b)⟩
theorem Reps.unhold (h : Reps (G.hold x) A H vs ds) : Reps G A H vs ds := ⟨h.1, fun i v d a b => Rep.unhold (h.2 i v d a b)⟩
theorem RepX.hold {cls : Value} {dd : Option Addr} {k : Nat} {fs : List D} (h : RepX G A N H cls dd k fs) : RepX (G.hold x) A N H cls dd k fs := by
  obtain ⟨e, h⟩ := h
  refine ⟨e, ?_⟩
  rcases h with h | ⟨h0, a, fvs, h1, hn, h2, h3⟩
  · exact .inl h
  · refine .inr ⟨h0, a, fvs, h1, hn, h2, fun i f d q r => ?_⟩
    obtain ⟨v, x, y⟩ := h3 i f d q r
    exact ⟨v, x, Rep.hold y⟩
end
theorem off_get {e : Q.Env} {i : Nat} {s : S} (h : (Q.offE e)[i]? = some s) : s = .no ∨ (e[i]? = some s ∧ ∀ k fs, s ≠ .exn k fs) := by
  unfold Q.offE at h
  rw [List.getElem?_map] at h
  cases q : e[i]? with
  | none => rw [q] at h; cases h
  | some t =>
    rw [q] at h
    have h := Option.some.inj h
    cases t with
    | exn k fs => exact .inl h.symm
    | _ => subst h; exact .inr ⟨rfl, fun k fs z => nomatch z⟩
theorem off_hot {e : Q.Env} {i : Nat} {s : S} (h : (Q.offE e)[i]? = some s) (hh : isHot s) : e[i]? = some s := by
  rcases off_get h with rfl | h
  · exact hh.elim
  · exact h.1
section
variable {G G' : Cfg} {fm : Fm} {hs : List Addr} {env : Q.Env} {ks : List (V × D)} {σ : L2.St} {H : Hp}
/-- the same names, another held error: the slots without it -/
theorem EnvOk.off (E : EnvOk G fm hs env ks σ H) (m : ∀ {A : Reg} {v : V} {d : D}, Rep G A H v d → Rep G' A H v d) (hc : G'.cls = G.cls) (hn : G'.names = G.names) : EnvOk G' fm hs (Q.offE env) ks σ H where
  ex := E.ex
  len := by rw [E.len]; unfold Q.offE; rw [List.length_map]
  bor := E.bor
  ms0 := E.ms0
  msh := E.msh
  hn := E.hn
  slot := fun i s q => by
    have mm : ∀ {A : Reg} {vs : List V} {ds : List D}, Reps G A H vs ds → Reps G' A H vs ds := fun r => ⟨r.1, fun i v d a b => m (r.2 i v d a b)⟩
    rcases off_get q with rfl | ⟨q, ne⟩
    · trivial
    · have sl := E.slot i s q
      cases s with
      | no => trivial
      | cold d =>
        obtain ⟨v, a, b⟩ := sl
        exact ⟨v, a, m b⟩
      | hot ds =>
        obtain ⟨p, vs, a, b, n, c, d⟩ := sl
        exact ⟨p, vs, a, b, n, c, mm d⟩
      | hob k ds =>
        obtain ⟨p, dx, vs, a, b, n, c, d⟩ := sl
        exact ⟨p, dx, vs, a, b, n, by rw [hc, hn]; exact c, mm d⟩
      | slf k ds =>
        obtain ⟨p, dx, vs, a, b, n, c, d⟩ := sl
        exact ⟨p, dx, vs, a, b, n, by rw [hc, hn]; exact c, mm d⟩
      | bor d =>
        obtain ⟨v, a, b⟩ := sl
        exact ⟨v, a, m b⟩
      | exn k fs => exact absurd rfl (ne k fs)
  inj := fun i j s t p a b c d e f => E.inj i j s t p (off_hot a c) (off_hot b d) c d e f
  fr := fun k q => m (E.fr k q)
/-- a slot holds nothing that is told of -/
theorem EnvOk.putNo {i : Nat} {o : Option V} (E : EnvOk G fm hs env ks σ H) {s1 : S} (hs1 : ¬ isHot s1) (hi : i < env.length → SlotOk G fm hs H s1 (some o)) : EnvOk G fm hs (env.set i s1) ks (σ.set i o) H where
  ex := E.ex
  len := by rw [List.length_set, List.length_set]; exact E.len
  bor := E.bor
  ms0 := E.ms0
  msh := E.msh
  hn := E.hn
  slot := fun j s q => by
    rcases get_set q with ⟨rfl, hl, rfl⟩ | ⟨hne, q⟩
    · rw [List.getElem?_set_self (by rw [E.len]; exact hl)]
      exact hi hl
    · rw [List.getElem?_set_ne (fun z => hne z.symm)]
      exact E.slot j s q
  inj := fun j k s t p a b c d e f => by
    have old : ∀ {m : Nat} {u : S}, (env.set i s1)[m]? = some u → isHot u → (σ.set i o)[m]? = some (some (.ref p)) → env[m]? = some u ∧ σ[m]? = some (some (.ref p)) := fun {m u} h hh hσ => by
      rcases get_set h with ⟨rfl, hl, rfl⟩ | ⟨hne, h⟩
      · exact absurd hh hs1
      · rw [List.getElem?_set_ne (fun z => hne z.symm)] at hσ
        exact ⟨h, hσ⟩
    obtain ⟨a1, a2⟩ := old a c e
    obtain ⟨b1, b2⟩ := old b d f
    exact E.inj j k s t p a1 b1 c d a2 b2
  fr := E.fr
end

section
variable {X : Cx} {G : Cfg} {W : WX} {pos pos' p p1 p2 np : Pos} {x y m : Str} {j : Nat}
/-- raise C('..') -/
theorem s_raise {c : Nat} {bmB : List Value} {B newId initId : String} (F : ExcBaseFacts B newId initId bmB) (hc : X.calm = true) (tk : Takes X W) (q : PySem.W.excIn X.K (G.cls c) bmB newId = true) (gC : X.mg x = some (.ref (G.cls c))) (kC : PySem.W.keepIn X.K (.ref (G.cls c)) = true)
    (b1 : PySem.W.subIn X.K (.ref (G.cls c)) (.type "BaseException") = some true) (b2 : PySem.W.typeIn X.K (.ref (G.cls c)) = some (.type "type")) (hg : Gl X x := by rfl) (hdb : (x == ("__debug__" : Str)) = false := by decide) :
    PS X (.Raise (some (.Call (.Name x p) [.Constant (.str m) j p2] [] pos)) none pos') (tS G W (Q.sraise c)) :=
  PS.conv (ps_raise hc tk (pmk_own F q gC kC (raises_own b1 b2) hg hdb)) fun T σ H ⟨fm, hs, env, ks, E, acc⟩ =>
    (acc : ∀ cls dd hs σ H, EnvOk G fm hs env ks σ H → RepX G (Cold fm hs) (New fm hs) H cls dd c [] → W cls dd σ H) _ _ hs σ H E ⟨rfl, .inl ⟨rfl, rfl⟩⟩
theorem RtV.unhold {e : Option (Addr × Value × Option Addr)} {fm : Fm} {hs : List Addr} {H : Hp} {v : V} {d : D} {c : Cl} (h : RtV (G.hold e) fm hs H v d c) : RtV G fm hs H v d c := by
  cases c with
  | cold => exact Rep.unhold h
  | taint => exact Rep.unhold h
  | fresh =>
    rcases h with ⟨p, vs, ds, a, b, c, d, e⟩ | ⟨p, dx, vs, k, ds, a, b, c, d, e⟩
    · exact .inl ⟨p, vs, ds, a, b, c, d, Reps.unhold e⟩
    · exact .inr ⟨p, dx, vs, k, ds, a, b, c, d, Reps.unhold e⟩
  | hot =>
    rcases h with ⟨p, vs, ds, a, b, c, d, e⟩ | ⟨p, dx, vs, k, ds, a, b, c, d, e⟩
    · exact .inl ⟨p, vs, ds, a, b, c, d, Reps.unhold e⟩
    · exact .inr ⟨p, dx, vs, k, ds, a, b, c, d, Reps.unhold e⟩
/-- try: body except C as n: suite (the suite raises nothing) -/
theorem s_tryX {i : Nat} {n : Str} {c : Value} {mm : Nat → Option Bool} {body suite : List Stmt} {b₀ : Stmt} {sb hb : Q.XS} (hm : ∀ k b, mm k = some b → PySem.W.exmOne X.K (.ref (G.cls k)) c = some b)
    (hs : X.stack = X.env :: X.outer) (hf : X.env.frame = some X.env.locals) (hN : X.N.Nodup) (hi : X.N[i]? = some n) (hln : X.env.kindOf n = some .local) (hc : Names X x c) (tk : Takes X W)
    (hbd : ∀ (W' : WX) (pn : List (Addr × Obj)) (xe : Value → Shared → Prop), Takes (X.tr pn xe) W' → PassesOwn (model X.prog X.w) X.A X.env xe → PSs (X.tr pn xe) body (tS G W' sb))
    (hsu : ∀ (a : Addr) (oe : Obj) (cls : Value) (d : Option Addr) (pn : List (Addr × Obj)), Zc cls d oe → (∃ vs, oe.data = .fields vs) → PSs (X.suite a ((a, oe) :: pn)) (b₀ :: suite) (tS (G.hold (some (a, cls, d))) noW hb)) :
    PS X (.Try body [.ExceptHandler (some (.Name x np)) (some n) (b₀ :: suite) pos'] [] [] pos) (tS G W (Q.stryX i mm sb hb)) :=
  PS.conv (ps_try_as (tb := fun W => tS G W sb) (ts := fun a cls d => tS (G.hold (some (a, cls, d))) noW hb) hs hf hN hi hln hc tk hbd hsu) fun T σ H ⟨fm, hs, env, ks, E, acc⟩ => by
    refine ⟨fm, hs, env, ks, E, ?_⟩
    unfold Q.stryX at acc
    cases q : sb env with
    | nx e => rw [q] at acc; exact acc
    | rt d c e => rw [q] at acc; exact acc
    | bk e => rw [q] at acc; exact acc
    | ct e => rw [q] at acc; exact acc
    | bad => rw [q] at acc; exact acc
    | exc k fs e1 =>
      rw [q] at acc
      intro cls dd hs' σ' H' E' rx
      simp only [] at acc
      cases hk : mm k with
      | none => rw [hk] at acc; exact acc.elim
      | some b =>
        rw [hk] at acc
        refine ⟨b, by rw [rx.1]; exact hm k b hk, fun hb1 => ?_, fun hb1 => ?_⟩
        · subst hb1
          intro a ha
          simp only [] at acc
          have E2 : EnvOk (G.hold (some (a, cls, dd))) fm hs' ((Q.offE e1).set i (.exn k fs)) ks (σ'.set i (some (.ref a))) H' :=
            EnvOk.putNo (G := G.hold (some (a, cls, dd))) (s1 := .exn k fs) (o := some (.ref a)) (EnvOk.off (G := G) (G' := G.hold (some (a, cls, dd))) E' (fun r => Rep.hold r) rfl rfl) (fun z => z) fun _ => ⟨a, cls, dd, rfl, rfl, RepX.hold rx⟩
          refine ⟨fm, hs', _, ks, E2, ?_⟩
          have back : ∀ {hs2 : List Addr} {e2 : Q.Env} {σ2 : L2.St} {H2 : Hp}, EnvOk (G.hold (some (a, cls, dd))) fm hs2 e2 ks σ2 H2 → EnvOk G fm hs2 ((Q.offE e2).set i .no) ks (σ2.set i none) H2 := fun E3 =>
            EnvOk.putNo (G := G) (s1 := .no) (o := none) (EnvOk.off (G := G.hold (some (a, cls, dd))) (G' := G) E3 (fun r => Rep.unhold r) rfl rfl) (fun z => z) fun _ => trivial
          cases q2 : hb ((Q.offE e1).set i (.exn k fs)) with
          | nx e2 => rw [q2] at acc; exact fun hs2 σ2 H2 E3 => acc hs2 _ H2 (back E3)
          | bk e2 => rw [q2] at acc; exact fun hs2 σ2 H2 E3 => acc hs2 _ H2 (back E3)
          | ct e2 => rw [q2] at acc; exact fun hs2 σ2 H2 E3 => acc hs2 _ H2 (back E3)
          | rt d c e2 => rw [q2] at acc; exact fun v hs2 σ2 H2 E3 r => acc v hs2 _ H2 (back E3) (RtV.unhold r)
          | exc k2 fs2 e2 => rw [q2] at acc; exact acc.elim
          | bad => rw [q2] at acc; exact acc.elim
        · subst hb1
          exact acc cls dd hs' σ' H' E' rx
end
section
variable {X : Cx} {G : Cfg} {W : WX} {a : Addr} {oe : Obj} {cls : Value} {d : Option Addr} {pn : List (Addr × Obj)} {i n j : Nat} {f y x : Str} {p p1 p2 pos : Pos} {r : Bool}
theorem exis_none {fm : Fm} {hs : List Addr} {env : Q.Env} {ks : List (V × D)} {σ : L2.St} {H : Hp} {P : D → Cl → V → Hp → Prop} (E : EnvOk (G.hold (some (a, cls, d))) fm hs env ks σ H) (acc : AccR (G.hold (some (a, cls, d))) W fm hs σ H (Q.exis n i r env) P) :
    (cls = .ref (G.cls n) ∧ d = none) ∧ σ[i]? = some (some (.ref a)) ∧ P (.bl r) .cold (.bl r) H := by
  have e : Q.exis n i r env = (match env[i]? with
    | some (.exn k []) => if k = n then R.ok (.bl r) .cold else .bad
    | _ => .bad) := rfl
  rw [e] at acc
  cases q : env[i]? with
  | none => rw [q] at acc; exact acc.elim
  | some s =>
    have sl := E.slot i s q
    rw [q] at acc
    cases s with
    | exn k fs =>
      cases fs with
      | nil =>
        obtain ⟨a', cls', dd', h1, h2, h3⟩ := sl
        have h1 : (some (a, cls, d) : Option (Addr × Value × Option Addr)) = some (a', cls', dd') := h1
        cases h1
        have acc : AccR (G.hold (some (a, cls, d))) W fm hs σ H (if k = n then R.ok (.bl r) .cold else .bad) P := acc
        by_cases hk : k = n
        · subst hk
          rw [if_pos rfl] at acc
          refine ⟨⟨h3.1, ?_⟩, h2, acc _ H (Same.refl _) (Rep.bl r)⟩
          rcases h3.2 with ⟨_, z⟩ | ⟨z, _⟩
          · exact z
          · exact absurd rfl z
        · rw [if_neg hk] at acc; exact acc.elim
      | cons _ _ => exact acc.elim
    | _ => exact acc.elim
/-- isinstance(e, C), C a class of the text, e an error without fields -/
theorem q_exis {C : Addr} (T : ExcC X.K (G.cls n)) (hz : Zc cls d oe) (hf : ∃ vs, oe.data = .fields vs) (hk : PySem.W.kitOne X.K (.ref (G.cls n)) (.ref C) = some r) (hmC : X.mg x = some (.ref C)) (hm : X.mg "isinstance" = none)
    (hN : X.N[i]? = some y := by rfl) (hv : Vis X.env.scope y := by first | exact Or.inl rfl | exact Or.inr (Or.inl rfl) | exact Or.inr (Or.inr rfl)) (hg : Gl X "isinstance" := by rfl) (hgx : Gl X x := by rfl)
    (hd : (y == ("__debug__" : Str)) = false := by decide) (hcd : (y == ("__classdict__" : Str)) = false := by decide) (hdb : (x == ("__debug__" : Str)) = false := by decide)
    (he : starEach (.Name y p1 :: [.Name x p2]) X.env = (false, eval (.Name y p1) X.env) :: starEach [.Name x p2] X.env := by rfl) (he2 : starEach (.Name x p2 :: []) X.env = (false, eval (.Name x p2) X.env) :: starEach [] X.env := by rfl) (hpl : (backTo pos (starEach [.Name x p2] X.env)).any (·.1) = false := by rfl) :
    PE (X.suite a ((a, oe) :: pn)) (.Call (.Name "isinstance" p) [.Name y p1, .Name x p2] [] pos) (tE (G.hold (some (a, cls, d))) W (Q.exis n i r)) := by
  by_cases h : cls = .ref (G.cls n) ∧ d = none
  · obtain ⟨rfl, rfl⟩ := h
    have cr := call_isE (X := X) (a := a) (pn := pn) T hz hf
    have vy : PE (X.suite a ((a, oe) :: pn)) (.Name y p1) (tVar i) := pv (X := X.suite a ((a, oe) :: pn)) i hN hv hd hcd
    have vx : PE (X.suite a ((a, oe) :: pn)) (.Name x p2) (tC (.ref C)) := pe_glob (X := X.suite a ((a, oe) :: pn)) hgx hmC rfl hdb
    refine (pe_callB (X := X.suite a ((a, oe) :: pn)) cr hg hm (by decide +kernel) (pa_cons vy (pa_cons vx pa_nil he2) he) (by decide) (by decide) he hpl).conv fun σ H P ⟨fm, hs, env, E, acc⟩ => ?_
    obtain ⟨_, h2, h3⟩ := exis_none E acc
    exact ⟨_, h2, .ref C, .ref C, r, rfl, fun u z => z, hk, h3⟩
  · exact ⟨fun pins s σ H Q I ⟨fm, hs, env, E, acc⟩ => absurd (exis_none E acc).1 h⟩
/-- isinstance(e, ValueError) and the like -/
theorem q_exisB {T' : String} (T : ExcC X.K (G.cls n)) (hz : Zc cls d oe) (hf : ∃ vs, oe.data = .fields vs) (hk : PySem.W.kitOne X.K (.ref (G.cls n)) (.type T') = some r) (hmC : X.mg x = none) (hm : X.mg "isinstance" = none) (hbt : bootBuiltins x = some (.type T'))
    (hN : X.N[i]? = some y := by rfl) (hv : Vis X.env.scope y := by first | exact Or.inl rfl | exact Or.inr (Or.inl rfl) | exact Or.inr (Or.inr rfl)) (hg : Gl X "isinstance" := by rfl) (hgx : Gl X x := by rfl) (hnn : x ≠ "__name__" := by decide)
    (hd : (y == ("__debug__" : Str)) = false := by decide) (hcd : (y == ("__classdict__" : Str)) = false := by decide) (hdb : (x == ("__debug__" : Str)) = false := by decide)
    (he : starEach (.Name y p1 :: [.Name x p2]) X.env = (false, eval (.Name y p1) X.env) :: starEach [.Name x p2] X.env := by rfl) (he2 : starEach (.Name x p2 :: []) X.env = (false, eval (.Name x p2) X.env) :: starEach [] X.env := by rfl) (hpl : (backTo pos (starEach [.Name x p2] X.env)).any (·.1) = false := by rfl) :
    PE (X.suite a ((a, oe) :: pn)) (.Call (.Name "isinstance" p) [.Name y p1, .Name x p2] [] pos) (tE (G.hold (some (a, cls, d))) W (Q.exis n i r)) := by
  by_cases h : cls = .ref (G.cls n) ∧ d = none
  · obtain ⟨rfl, rfl⟩ := h
    have cr := call_isE (X := X) (a := a) (pn := pn) T hz hf
    have vy : PE (X.suite a ((a, oe) :: pn)) (.Name y p1) (tVar i) := pv (X := X.suite a ((a, oe) :: pn)) i hN hv hd hcd
    have vx : PE (X.suite a ((a, oe) :: pn)) (.Name x p2) (tC (.ty T')) := pe_bltn (X := X.suite a ((a, oe) :: pn)) hgx hmC hbt rfl hnn hdb
    refine (pe_callB (X := X.suite a ((a, oe) :: pn)) cr hg hm (by decide +kernel) (pa_cons vy (pa_cons vx pa_nil he2) he) (by decide) (by decide) he hpl).conv fun σ H P ⟨fm, hs, env, E, acc⟩ => ?_
    obtain ⟨_, h2, h3⟩ := exis_none E acc
    exact ⟨_, h2, .ty T', .type T', r, rfl, fun u z => z, hk, h3⟩
  · exact ⟨fun pins s σ H Q I ⟨fm, hs, env, E, acc⟩ => absurd (exis_none E acc).1 h⟩
/-- e.f, e the error that the suite holds -/
theorem q_exf (T : XfC X.K (G.cls n)) (hno : PySem.W.findIn X.K (.ref (G.cls n)) f = some none) (hnm : (G.names n)[j]? = some f) (hz : Zc cls d oe) (hf : ∃ vs, oe.data = .fields vs)
    (hN : X.N[i]? = some y := by rfl) (hv : Vis X.env.scope y := by first | exact Or.inl rfl | exact Or.inr (Or.inl rfl) | exact Or.inr (Or.inr rfl))
    (hd : (y == ("__debug__" : Str)) = false := by decide) (hcd : (y == ("__classdict__" : Str)) = false := by decide) (hb : attributeBase (.Name y p) f X.env (eval (.Name y p) X.env) = eval (.Name y p) X.env := by rfl) :
    PE (X.suite a ((a, oe) :: pn)) (.Attribute (.Name y p) f pos) (tE (G.hold (some (a, cls, d))) W (Q.exf n i j)) := by
  have vy : PE (X.suite a ((a, oe) :: pn)) (.Name y p) (tVar i) := pv (X := X.suite a ((a, oe) :: pn)) i hN hv hd hcd
  refine (pe_xf (X := X) T hno hz hf vy hb).conv fun σ H P ⟨fm, hs, env, E, acc⟩ => ?_
  have e : Q.exf n i j env = (match env[i]? with
    | some (.exn k fs) => if k = n then (match fs[j]? with
      | some d => R.ok d .cold
      | none => .bad) else .bad
    | _ => .bad) := rfl
  rw [e] at acc
  cases q : env[i]? with
  | none => rw [q] at acc; exact acc.elim
  | some s =>
    have sl := E.slot i s q
    rw [q] at acc
    cases s with
    | exn k fs =>
      obtain ⟨a', cls', dd', h1, h2, h3⟩ := sl
      have h1 : (some (a, cls, d) : Option (Addr × Value × Option Addr)) = some (a', cls', dd') := h1
      cases h1
      have acc : AccR (G.hold (some (a, cls, d))) W fm hs σ H (if k = n then (match fs[j]? with
        | some d => R.ok d .cold
        | none => .bad) else .bad) fun _ _ v H' => P v H' := acc
      by_cases hk : k = n
      · subst hk
        rw [if_pos rfl] at acc
        cases q2 : fs[j]? with
        | none => rw [q2] at acc; exact acc.elim
        | some x =>
          rw [q2] at acc
          obtain ⟨hc, ⟨z, _⟩ | ⟨_, b, fvs, g1, _, g2, g3⟩⟩ := h3
          · rw [z] at q2; simp at q2
          · obtain ⟨v, l, rv⟩ := g3 j f x hnm q2
            exact ⟨_, h2, rfl, hc, b, fvs, v, g1, g2, l, acc v H (Same.refl _) rv⟩
      · rw [if_neg hk] at acc; exact acc.elim
    | _ => exact acc.elim
end

theorem exm_nil {K : PySem.W.Frag} {G : Cfg} {c : Value} : ∀ k b, ([] : List (Nat × Bool)).lookup k = some b → PySem.W.exmOne K (.ref (G.cls k)) c = some b := fun k b h => by simp at h
theorem exm_cons {K : PySem.W.Frag} {G : Cfg} {c : Value} {n : Nat} {r : Bool} {l : List (Nat × Bool)} (h : PySem.W.exmOne K (.ref (G.cls n)) c = some r) (t : ∀ k b, l.lookup k = some b → PySem.W.exmOne K (.ref (G.cls k)) c = some b) :
    ∀ k b, ((n, r) :: l).lookup k = some b → PySem.W.exmOne K (.ref (G.cls k)) c = some b := fun k b e => by
  rw [List.lookup_cons] at e
  by_cases hk : (k == n) = true
  · rw [hk] at e
    have hk := eq_of_beq hk
    cases e
    rw [hk]; exact h
  · rw [Bool.eq_false_iff.mpr hk] at e
    exact t k b e
theorem kit_ref {K : PySem.W.Frag} {D C : Addr} {b : Bool} (hd : PySem.W.hasDictIn K C = true) (ty : PySem.W.typeIn K (.ref C) = some (.type "type")) (h : PySem.W.subIn K (.ref D) (.ref C) = some b) (hs : PySem.W.subIn K (.ref D) (.ref D) = some true) : PySem.W.kitOne K (.ref D) (.ref C) = some b := by
  unfold PySem.W.kitOne
  by_cases e : (Value.ref D == Value.ref C) = true
  · rw [if_pos e]
    have e := eq_of_beq e
    rw [← e] at h
    rw [hs] at h
    exact h
  · rw [if_neg e]
    obtain ⟨cd, hc, _⟩ := PySem.W.any_some hd
    show (if ((PySem.W.clsIn K C).isSome && PySem.W.typeIn K (.ref C) == some (.type "type")) = true then PySem.W.subIn K (.ref D) (.ref C) else none) = some b
    rw [if_pos (by rw [hc, ty] <;> rfl)]
    exact h
theorem kit_blt {K : PySem.W.Frag} {D : Addr} {T : String} {b : Bool} (m : PySem.W.kitMeta T = true) (h : PySem.W.subIn K (.ref D) (.type T) = some b) : PySem.W.kitOne K (.ref D) (.type T) = some b := by
  unfold PySem.W.kitOne
  rw [if_neg (by intro e; have := eq_of_beq e; cases this)]
  show (if PySem.W.kitMeta T = true then PySem.W.subIn K (.ref D) (.type T) else none) = some b
  rw [if_pos m]
  exact h
end QW

set_option linter.all false
set_option maxRecDepth 100000
/-! printed by gen.py: the plain forms of the text of k04_plates_refused -/
namespace Ev
open Q (D R)
def b_ring_counts : Q.XS :=
    (Q.seq (Q.sif (Q.tnot (Q.tst (Q.chain Q.opLe Q.opLe (Q.con (.int 1)) (Q.op1 Q.fLen (Q.var 0)) (Q.con (.int 5))))) (Q.sraise 2) Q.snop)
    (Q.seq (Q.shot 1 (Q.lstx Q.anil))
    (Q.seq (Q.sfor (Q.ilst (Q.var 0)) (.tp [2, 3]) (Q.seq (Q.sif ((Q.tor (Q.tnot (Q.tst (Q.chain Q.opLe Q.opLe (Q.con (.int 1)) (Q.var 2) (Q.con (.int 40))))) (Q.tnot (Q.tst (Q.chain Q.opLe Q.opLe (Q.con (.int 1)) (Q.var 3) (Q.con (.int 60))))))) (Q.sraise 2) Q.snop)
    (Q.sfor (Q.irng1 (Q.var 2)) (.nm 4) (Q.sapp 1 (Q.var 3)))))
    (Q.seq (Q.sif (Q.tnot (Q.tst (Q.chain Q.opLe Q.opLe (Q.con (.int 2)) (Q.op1 Q.fLen (Q.var 1)) (Q.con (.int 120))))) (Q.sraise 2) Q.snop)
    (Q.sret (Q.var 1))))))
def ring_counts : List D → R := Q.fn 5 b_ring_counts
def b_check_lap : Q.XS :=
    (Q.seq (Q.sif ((Q.tor (Q.tnot (Q.tst (Q.chain Q.opLe Q.opLe (Q.con (.int 1)) (Q.var 1) (Q.con (.int 1000000000))))) (Q.tnot (Q.tst (Q.chain Q.opLe Q.opLt (Q.con (.int 0)) (Q.var 2) (Q.var 1)))))) (Q.sraise 2) Q.snop)
    (Q.sfor (Q.ilst (Q.var 0)) (.nm 3) (Q.sif (Q.tst (Q.op2 Q.opGt (Q.op2 Q.opMod (Q.var 1) (Q.var 3)) (Q.con (.int 0)))) (Q.sraise 2) Q.snop)))
def check_lap : List D → R := Q.fn 4 b_check_lap
def b_check_swing : Q.XS :=
    (Q.seq (Q.sif ((Q.tor (Q.tst (Q.op2 Q.opNe (Q.op1 Q.fLen (Q.var 0)) (Q.var 1))) (Q.tst (Q.op2 Q.opNe (Q.idx (Q.var 0) (Q.con (.int 0))) (Q.con (.int 0)))))) (Q.sraise 2) Q.snop)
    (Q.seq (Q.sfor (Q.irng2 (Q.con (.int 1)) (Q.var 1)) (.nm 2) (Q.sif ((Q.tor (Q.tnot (Q.tst (Q.chain Q.opLe Q.opLe (Q.con (.int 1)) (Q.idx (Q.var 0) (Q.var 2)) (Q.con (.int 1000000000))))) (Q.tst (Q.op2 Q.opLt (Q.idx (Q.var 0) (Q.var 2)) (Q.idx (Q.var 0) (Q.op2 Q.opSub (Q.var 2) (Q.con (.int 1)))))))) (Q.sraise 2) Q.snop))
    (Q.sfor (Q.irng2 (Q.con (.int 1)) (Q.var 1)) (.nm 3) (Q.sfor (Q.irng2 (Q.var 3) (Q.op2 Q.opSub (Q.var 1) (Q.var 3))) (.nm 4) (Q.sif (Q.tst (Q.op2 Q.opGt (Q.idx (Q.var 0) (Q.op2 Q.opAdd (Q.var 3) (Q.var 4))) (Q.op2 Q.opAdd (Q.idx (Q.var 0) (Q.var 3)) (Q.idx (Q.var 0) (Q.var 4))))) (Q.sraise 2) Q.snop)))))
def check_swing : List D → R := Q.fn 5 b_check_swing
def b_Plate_init : Q.XS :=
    (Q.seq (Q.sfld 0 0 0 (Q.call 1 Ev.ring_counts (Q.acons (Q.var 1) Q.anil)))
    (Q.seq (Q.sexpr (Q.call 3 Ev.check_lap (Q.acons ((Q.fld 0 0 (Q.var 0))) (Q.acons (Q.var 2) (Q.acons (Q.var 3) Q.anil)))))
    (Q.seq (Q.sexpr (Q.call 2 Ev.check_swing (Q.acons (Q.var 4) (Q.acons (Q.op1 Q.fLen ((Q.fld 0 0 (Q.var 0)))) Q.anil))))
    (Q.seq (Q.sfld 0 0 1 (Q.var 2))
    (Q.seq (Q.sfld 0 0 2 (Q.var 3))
    (Q.seq (Q.sfld 0 0 3 (Q.listOf (Q.var 4)))
    (Q.sfld 0 0 4 (Q.con (.int 0)))))))))
def Plate_init : List D → R := Q.fnIB 0 5 b_Plate_init
theorem Plate_init_obj : ∀ ds d cl, Plate_init ds = .ok d cl → ∃ fs, d = .obj 0 fs := fun _ _ _ h => Q.leaveI_obj h
def b_Plate_rings : Q.XS :=
    (Q.sret (Q.op1 Q.fLen ((Q.fld 0 0 (Q.var 0)))))
def Plate_rings : List D → R := Q.fn 1 b_Plate_rings
def b_l_at : Q.XS :=
    (Q.seq (Q.sif (Q.tst (Q.op2 Q.opLt (Q.var 1) (Q.op1 Q.fLen (Q.var 0)))) (Q.sret (Q.idx (Q.var 0) (Q.var 1))) Q.snop)
    (Q.sret (Q.con (.int 0))))
def l_at : List D → R := Q.fn 2 b_l_at
def b_l_same (self_ : List D → R) : Q.XS :=
    (Q.seq (Q.sif ((Q.tor (Q.tst (Q.op2 Q.opNe (Q.isi Q.isTup (Q.var 1)) (Q.isi Q.isTup (Q.var 0)))) (Q.tst (Q.op2 Q.opNe (Q.isi Q.isLst (Q.var 1)) (Q.isi Q.isLst (Q.var 0)))))) (Q.sret (Q.con (.bl false))) Q.snop)
    (Q.seq (Q.sif (Q.tst (Q.isi Q.isTL (Q.var 1))) (Q.seq (Q.sif (Q.tst (Q.op2 Q.opNe (Q.op1 Q.fLen (Q.var 0)) (Q.op1 Q.fLen (Q.var 1)))) (Q.sret (Q.con (.bl false))) Q.snop)
    (Q.seq (Q.sfor (Q.irng1 (Q.op1 Q.fLen (Q.var 1))) (.nm 2) (Q.sif (Q.tnot (Q.tst (Q.call 2 self_ (Q.acons (Q.idx (Q.var 0) (Q.var 2)) (Q.acons (Q.idx (Q.var 1) (Q.var 2)) Q.anil))))) (Q.sret (Q.con (.bl false))) Q.snop))
    (Q.sret (Q.con (.bl true))))) Q.snop)
    (Q.seq (Q.sif (Q.tst (Q.op1 Q.opIsN (Q.var 1))) (Q.sret (Q.op1 Q.opIsN (Q.var 0))) Q.snop)
    (Q.seq (Q.sif ((Q.tor (Q.tst (Q.op2 Q.opNe (Q.isi Q.isBl (Q.var 1)) (Q.isi Q.isBl (Q.var 0)))) (Q.tst (Q.op2 Q.opNe (Q.isi Q.isStr (Q.var 1)) (Q.isi Q.isStr (Q.var 0)))))) (Q.sret (Q.con (.bl false))) Q.snop)
    (Q.sret ((Q.vand (Q.op2 Q.opEq (Q.isi Q.isInt (Q.var 1)) (Q.isi Q.isInt (Q.var 0))) (Q.op2 Q.opEq (Q.var 0) (Q.var 1)))))))))
def it_l_same : Nat → List D → R
  | 0 => fun _ => .bad
  | n + 1 => Q.fn 3 (b_l_same (it_l_same n))
def l_same : List D → R := it_l_same 8
def b_l_mix : Q.XS :=
    (Q.seq (Q.sset 2 (Q.op2 Q.opAdd (Q.op2 Q.opAdd (Q.op2 Q.opMul (Q.op2 Q.opAdd (Q.op2 Q.opMod (Q.var 0) (Q.op2 Q.opPow (Q.con (.int 10)) (Q.con (.int 15)))) (Q.con (.int 1))) (Q.con (.int 48271))) (Q.op2 Q.opMul (Q.op2 Q.opMul (Q.var 1) (Q.var 1)) (Q.con (.int 16807)))) (Q.op2 Q.opMul (Q.var 1) (Q.con (.int 7919)))))
    (Q.sret (Q.op2 Q.opMod (Q.op2 Q.opMul (Q.op2 Q.opMod (Q.var 2) (Q.con (.int 2147483647))) (Q.con (.int 69621))) (Q.con (.int 2147483629)))))
def l_mix : List D → R := Q.fn 3 b_l_mix
def b_l_zones : Q.XS :=
    (Q.seq (Q.sif (Q.tst (Q.op2 Q.opEq (Q.op2 Q.opMod (Q.call 2 Ev.l_mix (Q.acons (Q.var 1) (Q.acons (Q.con (.int 10)) Q.anil))) (Q.con (.int 9))) (Q.con (.int 0)))) (Q.sret (Q.lc [4] (Q.irng1 (Q.con (.int 3))) (.nm 4) Q.tyes (Q.tupx (Q.acons (Q.op2 Q.opSub (Q.con (.int 40)) (Q.op2 Q.opMul (Q.op2 Q.opMod (Q.call 2 Ev.l_mix (Q.acons (Q.var 0) (Q.acons (Q.op2 Q.opAdd (Q.con (.int 11)) (Q.var 4)) Q.anil))) (Q.con (.int 9))) (Q.var 4))) (Q.acons (Q.op2 Q.opAdd (Q.con (.int 1)) (Q.op2 Q.opMod (Q.call 2 Ev.l_mix (Q.acons (Q.var 1) (Q.acons (Q.op2 Q.opAdd (Q.con (.int 11)) (Q.var 4)) Q.anil))) (Q.con (.int 8)))) Q.anil))))) Q.snop)
    (Q.seq (Q.sif (Q.tst (Q.op2 Q.opEq (Q.op2 Q.opMod (Q.call 2 Ev.l_mix (Q.acons (Q.var 1) (Q.acons (Q.con (.int 9)) Q.anil))) (Q.con (.int 8))) (Q.con (.int 0)))) (Q.sret (Q.lstx (Q.acons (Q.tupx (Q.acons (Q.op2 Q.opAdd (Q.con (.int 2)) (Q.op2 Q.opMod (Q.call 2 Ev.l_mix (Q.acons (Q.var 0) (Q.acons (Q.con (.int 9)) Q.anil))) (Q.con (.int 2)))) (Q.acons (Q.op2 Q.opAdd (Q.con (.int 1)) (Q.op2 Q.opMod (Q.call 2 Ev.l_mix (Q.acons (Q.var 1) (Q.acons (Q.con (.int 8)) Q.anil))) (Q.con (.int 60)))) Q.anil))) Q.anil))) Q.snop)
    (Q.seq (Q.sset 2 (Q.op2 Q.opAdd (Q.con (.int 1)) (Q.op2 Q.opMod (Q.call 2 Ev.l_mix (Q.acons (Q.var 0) (Q.acons (Q.con (.int 0)) Q.anil))) (Q.con (.int 3)))))
    (Q.seq (Q.sif (Q.tst (Q.op2 Q.opEq (Q.op2 Q.opMod (Q.call 2 Ev.l_mix (Q.acons (Q.var 0) (Q.acons (Q.con (.int 1)) Q.anil))) (Q.con (.int 9))) (Q.con (.int 0)))) (Q.sset 2 (Q.con (.int 5))) Q.snop)
    (Q.seq (Q.shot 3 (Q.lstx (Q.acons (Q.tupx (Q.acons (Q.op2 Q.opAdd (Q.con (.int 2)) (Q.op2 Q.opMod (Q.call 2 Ev.l_mix (Q.acons (Q.var 0) (Q.acons (Q.con (.int 2)) Q.anil))) (Q.con (.int 2)))) (Q.acons (Q.op2 Q.opAdd (Q.con (.int 1)) (Q.op2 Q.opMod (Q.call 2 Ev.l_mix (Q.acons (Q.var 1) (Q.acons (Q.con (.int 0)) Q.anil))) (Q.con (.int 8)))) Q.anil))) Q.anil)))
    (Q.seq (Q.sfor (Q.irng2 (Q.con (.int 1)) (Q.var 2)) (.nm 4) (Q.sapp 3 (Q.tupx (Q.acons (Q.op2 Q.opAdd (Q.con (.int 1)) (Q.op2 Q.opMod (Q.call 2 Ev.l_mix (Q.acons (Q.var 0) (Q.acons (Q.op2 Q.opAdd (Q.con (.int 2)) (Q.var 4)) Q.anil))) (Q.con (.int 3)))) (Q.acons (Q.op2 Q.opAdd (Q.con (.int 1)) (Q.op2 Q.opMod (Q.call 2 Ev.l_mix (Q.acons (Q.var 1) (Q.acons (Q.var 4) Q.anil))) (Q.con (.int 8)))) Q.anil)))))
    (Q.sret (Q.var 3))))))))
def l_zones : List D → R := Q.fn 5 b_l_zones
def b_l_counts : Q.XS :=
    (Q.seq (Q.shot 1 (Q.lstx Q.anil))
    (Q.seq (Q.sfor (Q.ilst (Q.var 0)) (.tp [2, 3]) (Q.sext 1 (Q.repx (Q.lstx (Q.acons (Q.var 3) Q.anil)) (Q.var 2))))
    (Q.sret (Q.var 1))))
def l_counts : List D → R := Q.fn 4 b_l_counts
def b_l_lap : Q.XS :=
    (Q.seq (Q.sset 2 (Q.con (.int 1)))
    (Q.seq (Q.sfor (Q.ilst (Q.var 0)) (.tp [3, 4]) (Q.sset 2 (Q.op2 Q.opMul (Q.var 2) (Q.var 4))))
    (Q.seq (Q.sset 5 (Q.con (.int 900)))
    (Q.seq (Q.sif (Q.tst (Q.op2 Q.opEq (Q.op2 Q.opMod (Q.call 2 Ev.l_mix (Q.acons (Q.var 1) (Q.acons (Q.con (.int 0)) Q.anil))) (Q.con (.int 9))) (Q.con (.int 0)))) (Q.sset 5 (Q.op2 Q.opDiv (Q.op2 Q.opPow (Q.con (.int 10)) (Q.con (.int 9))) (Q.var 2))) Q.snop)
    (Q.sret (Q.op2 Q.opMul (Q.var 2) (Q.op2 Q.opAdd (Q.con (.int 1)) (Q.op2 Q.opMod (Q.call 2 Ev.l_mix (Q.acons (Q.var 1) (Q.acons (Q.con (.int 1)) Q.anil))) (Q.var 5)))))))))
def l_lap : List D → R := Q.fn 6 b_l_lap
def b_l_swing : Q.XS :=
    (Q.seq (Q.sif (Q.tst (Q.op2 Q.opEq (Q.op2 Q.opMod (Q.call 2 Ev.l_mix (Q.acons (Q.var 1) (Q.acons (Q.con (.int 0)) Q.anil))) (Q.con (.int 2))) (Q.con (.int 0)))) (Q.seq (Q.sset 2 (Q.op2 Q.opAdd (Q.con (.int 1)) (Q.op2 Q.opMod (Q.call 2 Ev.l_mix (Q.acons (Q.var 1) (Q.acons (Q.con (.int 1)) Q.anil))) (Q.con (.int 1000)))))
    (Q.seq (Q.sif (Q.tst (Q.op2 Q.opEq (Q.op2 Q.opMod (Q.call 2 Ev.l_mix (Q.acons (Q.var 1) (Q.acons (Q.con (.int 2)) Q.anil))) (Q.con (.int 9))) (Q.con (.int 0)))) (Q.sset 2 (Q.op2 Q.opAdd (Q.con (.int 1)) (Q.op2 Q.opMod (Q.call 2 Ev.l_mix (Q.acons (Q.var 1) (Q.acons (Q.con (.int 1)) Q.anil))) (Q.op2 Q.opMul (Q.con (.int 8)) (Q.op2 Q.opPow (Q.con (.int 10)) (Q.con (.int 6))))))) Q.snop)
    (Q.seq (Q.shot 3 (Q.lstx (Q.acons (Q.con (.int 0)) (Q.acons (Q.var 2) Q.anil))))
    (Q.seq (Q.sfor (Q.irng2 (Q.con (.int 2)) (Q.var 0)) (.nm 4) (Q.seq (Q.sset 2 (Q.op2 Q.opSub (Q.var 2) (Q.op2 Q.opDiv (Q.op2 Q.opMod (Q.call 2 Ev.l_mix (Q.acons (Q.var 1) (Q.acons (Q.op2 Q.opAdd (Q.var 4) (Q.con (.int 2))) Q.anil))) (Q.op2 Q.opAdd (Q.var 2) (Q.con (.int 1)))) (Q.con (.int 2)))))
    (Q.sapp 3 (Q.op2 Q.opAdd (Q.idx (Q.var 3) (Q.op1 Q.opNeg (Q.con (.int 1)))) (Q.var 2)))))
    (Q.sret (Q.var 3)))))) Q.snop)
    (Q.seq (Q.sset 5 (Q.op2 Q.opAdd (Q.con (.int 1)) (Q.op2 Q.opMod (Q.call 2 Ev.l_mix (Q.acons (Q.var 1) (Q.acons (Q.con (.int 1)) Q.anil))) (Q.op2 Q.opPow (Q.con (.int 10)) (Q.con (.int 8))))))
    (Q.sret (Q.catx (Q.lstx (Q.acons (Q.con (.int 0)) Q.anil)) (Q.sortedI (Q.lc [4] (Q.irng2 (Q.con (.int 1)) (Q.var 0)) (.nm 4) Q.tyes (Q.op2 Q.opAdd (Q.var 5) (Q.op2 Q.opMod (Q.call 2 Ev.l_mix (Q.acons (Q.var 1) (Q.acons (Q.op2 Q.opAdd (Q.var 4) (Q.con (.int 2))) Q.anil))) (Q.op2 Q.opAdd (Q.var 5) (Q.con (.int 1)))))))))))
def l_swing : List D → R := Q.fn 6 b_l_swing
def b_l_zones_bad : Q.XS :=
    (Q.seq (Q.shot 3 (Q.listOf (Q.var 0)))
    (Q.seq (Q.sif (Q.tst (Q.op2 Q.opEq (Q.var 1) (Q.con (.int 0)))) (Q.sret (Q.lstx Q.anil)) Q.snop)
    (Q.seq (Q.sif (Q.tst (Q.op2 Q.opEq (Q.var 1) (Q.con (.int 1)))) (Q.sret (Q.catx (Q.var 3) (Q.repx (Q.lstx (Q.acons (Q.tupx (Q.acons (Q.con (.int 1)) (Q.acons (Q.con (.int 1)) Q.anil))) Q.anil)) (Q.op2 Q.opSub (Q.con (.int 6)) (Q.op1 Q.fLen (Q.var 3)))))) Q.snop)
    (Q.seq (Q.sif ((Q.tor (Q.tst (Q.op2 Q.opEq (Q.var 1) (Q.con (.int 2)))) (Q.tst (Q.op2 Q.opEq (Q.var 1) (Q.con (.int 3)))))) (Q.sput 3 (Q.var 2) (Q.tupx (Q.acons (Q.idx (Q.lstx (Q.acons (Q.con (.int 0)) (Q.acons (Q.con (.int 41)) Q.anil))) (Q.op2 Q.opSub (Q.var 1) (Q.con (.int 2)))) (Q.acons (Q.idx (Q.idx (Q.var 3) (Q.var 2)) (Q.con (.int 1))) Q.anil)))) Q.snop)
    (Q.seq (Q.sif ((Q.tor (Q.tst (Q.op2 Q.opEq (Q.var 1) (Q.con (.int 4)))) (Q.tst (Q.op2 Q.opEq (Q.var 1) (Q.con (.int 5)))))) (Q.sput 3 (Q.var 2) (Q.tupx (Q.acons (Q.idx (Q.idx (Q.var 3) (Q.var 2)) (Q.con (.int 0))) (Q.acons (Q.idx (Q.lstx (Q.acons (Q.con (.int 0)) (Q.acons (Q.con (.int 61)) Q.anil))) (Q.op2 Q.opSub (Q.var 1) (Q.con (.int 4)))) Q.anil)))) Q.snop)
    (Q.seq (Q.sif (Q.tst (Q.op2 Q.opEq (Q.var 1) (Q.con (.int 6)))) (Q.sret (Q.lstx (Q.acons (Q.tupx (Q.acons (Q.con (.int 1)) (Q.acons (Q.idx (Q.idx (Q.var 0) (Q.con (.int 0))) (Q.con (.int 1))) Q.anil))) Q.anil))) Q.snop)
    (Q.seq (Q.sif (Q.tst (Q.op2 Q.opEq (Q.var 1) (Q.con (.int 7)))) (Q.sret (Q.lstx (Q.acons (Q.tupx (Q.acons (Q.con (.int 40)) (Q.acons (Q.con (.int 1)) Q.anil))) (Q.acons (Q.tupx (Q.acons (Q.con (.int 40)) (Q.acons (Q.con (.int 1)) Q.anil))) (Q.acons (Q.tupx (Q.acons (Q.con (.int 40)) (Q.acons (Q.con (.int 1)) Q.anil))) (Q.acons (Q.tupx (Q.acons (Q.con (.int 1)) (Q.acons (Q.con (.int 1)) Q.anil))) Q.anil)))))) Q.snop)
    (Q.sret (Q.var 3)))))))))
def l_zones_bad : List D → R := Q.fn 4 b_l_zones_bad
def b_l_swing_bad : Q.XS :=
    (Q.seq (Q.shot 3 (Q.listOf (Q.var 0)))
    (Q.seq (Q.sif (Q.tst (Q.op2 Q.opEq (Q.var 1) (Q.con (.int 12)))) (Q.sret (Q.slice (Q.var 3) Q.onone (Q.osome (Q.op1 Q.opNeg (Q.con (.int 1)))))) Q.snop)
    (Q.seq (Q.sif (Q.tst (Q.op2 Q.opEq (Q.var 1) (Q.con (.int 13)))) (Q.sret (Q.catx (Q.var 3) (Q.lstx (Q.acons (Q.idx (Q.var 3) (Q.op1 Q.opNeg (Q.con (.int 1)))) Q.anil)))) Q.snop)
    (Q.seq (Q.sif (Q.tst (Q.op2 Q.opEq (Q.var 1) (Q.con (.int 14)))) (Q.sput 3 (Q.con (.int 0)) (Q.con (.int 1))) Q.snop)
    (Q.seq (Q.sif (Q.tst (Q.op2 Q.opEq (Q.var 1) (Q.con (.int 15)))) (Q.sput 3 (Q.op2 Q.opAdd (Q.con (.int 1)) (Q.op2 Q.opMod (Q.var 2) (Q.op2 Q.opSub (Q.op1 Q.fLen (Q.var 3)) (Q.con (.int 1))))) (Q.con (.int 0))) Q.snop)
    (Q.seq (Q.sif ((Q.tand (Q.tst (Q.op2 Q.opEq (Q.var 1) (Q.con (.int 16)))) (Q.tst (Q.op2 Q.opGt (Q.op1 Q.fLen (Q.var 3)) (Q.con (.int 2)))))) (Q.seq (Q.sset 2 (Q.op2 Q.opAdd (Q.con (.int 2)) (Q.op2 Q.opMod (Q.var 2) (Q.op2 Q.opSub (Q.op1 Q.fLen (Q.var 3)) (Q.con (.int 2))))))
    (Q.sput 3 (Q.var 2) (Q.op2 Q.opSub (Q.idx (Q.var 3) (Q.op2 Q.opSub (Q.var 2) (Q.con (.int 1)))) (Q.con (.int 1))))) Q.snop)
    (Q.seq (Q.sif ((Q.tand (Q.tst (Q.op2 Q.opEq (Q.var 1) (Q.con (.int 16)))) (Q.tst (Q.op2 Q.opEq (Q.op1 Q.fLen (Q.var 3)) (Q.con (.int 2)))))) (Q.sput 3 (Q.con (.int 1)) (Q.op2 Q.opAdd (Q.op2 Q.opPow (Q.con (.int 10)) (Q.con (.int 9))) (Q.con (.int 1)))) Q.snop)
    (Q.seq (Q.sif (Q.tst (Q.op2 Q.opEq (Q.var 1) (Q.con (.int 17)))) (Q.seq (Q.sset 4 (Q.op2 Q.opAdd (Q.con (.int 2)) (Q.op2 Q.opMod (Q.var 2) (Q.op2 Q.opSub (Q.op1 Q.fLen (Q.var 3)) (Q.con (.int 2))))))
    (Q.seq (Q.sset 5 (Q.op2 Q.opAdd (Q.con (.int 1)) (Q.op2 Q.opMod (Q.op2 Q.opDiv (Q.var 2) (Q.con (.int 31))) (Q.op2 Q.opDiv (Q.var 4) (Q.con (.int 2))))))
    (Q.seq (Q.sput 3 (Q.var 4) (Q.op2 Q.opAdd (Q.op2 Q.opAdd (Q.idx (Q.var 3) (Q.var 5)) (Q.idx (Q.var 3) (Q.op2 Q.opSub (Q.var 4) (Q.var 5)))) (Q.con (.int 1))))
    (Q.shot 3 (Q.catx (Q.slice (Q.var 3) Q.onone (Q.osome (Q.op2 Q.opAdd (Q.var 4) (Q.con (.int 1))))) (Q.lc [6] (Q.ilst (Q.slice (Q.var 3) (Q.osome (Q.op2 Q.opAdd (Q.var 4) (Q.con (.int 1)))) Q.onone)) (.nm 6) Q.tyes (Q.op2 Q.fMax2 (Q.var 6) (Q.idx (Q.var 3) (Q.var 4))))))))) Q.snop)
    (Q.sret (Q.var 3))))))))))
def l_swing_bad : List D → R := Q.fn 7 b_l_swing_bad
def b_l_refused : Q.XS :=
    (Q.seq (Q.sset 4 (Q.lstx Q.anil))
    (Q.seq (Q.stryX 5 (fun k => ([(2, true)] : List (Nat × Bool)).lookup k) (Q.sexpr (Q.mkN 4 Ev.Plate_init (Q.acons (Q.var 0) (Q.acons (Q.var 1) (Q.acons (Q.var 2) (Q.acons (Q.var 3) Q.anil)))))) (Q.seq (Q.sset 4 (Q.lstx (Q.acons (Q.exis 2 5 true) (Q.acons (Q.exis 2 5 true) (Q.acons (Q.exis 2 5 false) (Q.acons (Q.exis 2 5 false) Q.anil))))))
    (Q.seq (Q.sset 4 (Q.catx (Q.var 4) (Q.lstx (Q.acons (Q.exis 2 5 false) (Q.acons (Q.exis 2 5 false) (Q.acons (Q.exis 2 5 false) (Q.acons (Q.exis 2 5 false) Q.anil)))))))
    (Q.sset 4 (Q.catx (Q.var 4) (Q.lstx (Q.acons (Q.exis 2 5 false) (Q.acons (Q.exis 2 5 false) Q.anil))))))))
    (Q.sret (Q.op2 Q.opEqP (Q.var 4) (Q.catx (Q.lstx (Q.acons (Q.con (.bl true)) (Q.acons (Q.con (.bl true)) Q.anil))) (Q.repx (Q.lstx (Q.acons (Q.con (.bl false)) Q.anil)) (Q.con (.int 8))))))))
def l_refused : List D → R := Q.fn 6 b_l_refused
def b_law : Q.XS :=
    (Q.seq (Q.sset 1 (Q.call 2 Ev.l_zones (Q.acons (Q.call 2 Ev.l_at (Q.acons (Q.var 0) (Q.acons (Q.con (.int 0)) Q.anil))) (Q.acons (Q.call 2 Ev.l_at (Q.acons (Q.var 0) (Q.acons (Q.con (.int 1)) Q.anil))) Q.anil))))
    (Q.seq (Q.sset 2 (Q.call 1 Ev.l_counts (Q.acons (Q.var 1) Q.anil)))
    (Q.seq (Q.sset 3 (Q.call 2 Ev.l_lap (Q.acons (Q.var 1) (Q.acons (Q.call 2 Ev.l_at (Q.acons (Q.var 0) (Q.acons (Q.con (.int 2)) Q.anil))) Q.anil))))
    (Q.seq (Q.sset 4 (Q.op2 Q.opMod (Q.call 2 Ev.l_mix (Q.acons (Q.call 2 Ev.l_at (Q.acons (Q.var 0) (Q.acons (Q.con (.int 3)) Q.anil))) (Q.acons (Q.con (.int 0)) Q.anil))) (Q.var 3)))
    (Q.seq (Q.sset 5 (Q.call 2 Ev.l_swing (Q.acons (Q.op1 Q.fLen (Q.var 2)) (Q.acons (Q.call 2 Ev.l_at (Q.acons (Q.var 0) (Q.acons (Q.con (.int 4)) Q.anil))) Q.anil))))
    (Q.seq (Q.sif (Q.tnot (Q.tst (Q.call 2 Ev.l_same (Q.acons ((Q.meth 0 0 Ev.Plate_rings (Q.mkN 4 Ev.Plate_init (Q.acons (Q.var 1) (Q.acons (Q.var 3) (Q.acons (Q.var 4) (Q.acons (Q.var 5) Q.anil))))) Q.anil)) (Q.acons (Q.op1 Q.fLen (Q.var 2)) Q.anil))))) (Q.sret (Q.con (.bl false))) Q.snop)
    (Q.seq (Q.sset 6 (Q.op2 Q.opMod (Q.call 2 Ev.l_mix (Q.acons (Q.call 2 Ev.l_at (Q.acons (Q.var 0) (Q.acons (Q.con (.int 5)) Q.anil))) (Q.acons (Q.con (.int 0)) Q.anil))) (Q.con (.int 18))))
    (Q.seq (Q.sset 7 (Q.call 2 Ev.l_mix (Q.acons (Q.call 2 Ev.l_at (Q.acons (Q.var 0) (Q.acons (Q.con (.int 6)) Q.anil))) (Q.acons (Q.con (.int 0)) Q.anil))))
    (Q.seq (Q.sif ((Q.tand (Q.tst (Q.op2 Q.opEq (Q.var 6) (Q.con (.int 17)))) (Q.tst (Q.op2 Q.opEq (Q.op1 Q.fLen (Q.var 5)) (Q.con (.int 2)))))) (Q.sset 6 (Q.con (.int 16))) Q.snop)
    (Q.seq (Q.sset 8 (Q.call 3 Ev.l_zones_bad (Q.acons (Q.var 1) (Q.acons (Q.var 6) (Q.acons (Q.op2 Q.opMod (Q.var 7) (Q.op1 Q.fLen (Q.var 1))) Q.anil)))))
    (Q.seq (Q.sset 9 (Q.call 3 Ev.l_swing_bad (Q.acons (Q.var 5) (Q.acons (Q.var 6) (Q.acons (Q.var 7) Q.anil)))))
    (Q.seq (Q.sif ((Q.tor (Q.tst (Q.op2 Q.opEq (Q.var 6) (Q.con (.int 6)))) (Q.tst (Q.op2 Q.opEq (Q.var 6) (Q.con (.int 7)))))) (Q.sset 9 (Q.catx (Q.lstx (Q.acons (Q.con (.int 0)) Q.anil)) (Q.repx (Q.lstx (Q.acons (Q.con (.int 1)) Q.anil)) (Q.op2 Q.opSub (Q.op1 Q.fLen (Q.call 1 Ev.l_counts (Q.acons (Q.var 8) Q.anil))) (Q.con (.int 1)))))) Q.snop)
    (Q.seq (Q.sif (Q.tst (Q.op2 Q.opEq (Q.var 6) (Q.con (.int 8)))) (Q.sret ((Q.vand (Q.call 4 Ev.l_refused (Q.acons (Q.var 8) (Q.acons (Q.con (.int 0)) (Q.acons (Q.con (.int 0)) (Q.acons (Q.var 9) Q.anil))))) (Q.call 4 Ev.l_refused (Q.acons (Q.var 8) (Q.acons (Q.op2 Q.opMul (Q.op2 Q.opAdd (Q.op2 Q.opDiv (Q.op2 Q.opPow (Q.con (.int 10)) (Q.con (.int 9))) (Q.var 3)) (Q.con (.int 1))) (Q.var 3)) (Q.acons (Q.var 4) (Q.acons (Q.var 9) Q.anil)))))))) Q.snop)
    (Q.seq (Q.sif ((Q.tand (Q.tst (Q.op2 Q.opEq (Q.var 6) (Q.con (.int 9)))) (Q.tst (Q.op2 Q.opGt (Q.op1 Q.fMax (Q.var 2)) (Q.con (.int 1)))))) (Q.sret (Q.call 4 Ev.l_refused (Q.acons (Q.var 8) (Q.acons (Q.op2 Q.opAdd (Q.var 3) (Q.con (.int 1))) (Q.acons (Q.var 4) (Q.acons (Q.var 9) Q.anil)))))) Q.snop)
    (Q.seq (Q.sif ((Q.tor (Q.tst (Q.op2 Q.opEq (Q.var 6) (Q.con (.int 9)))) (Q.tst (Q.op2 Q.opEq (Q.var 6) (Q.con (.int 10)))))) (Q.sret (Q.call 4 Ev.l_refused (Q.acons (Q.var 8) (Q.acons (Q.var 3) (Q.acons (Q.op2 Q.opSub (Q.op1 Q.opNeg (Q.con (.int 1))) (Q.var 7)) (Q.acons (Q.var 9) Q.anil)))))) Q.snop)
    (Q.seq (Q.sif (Q.tst (Q.op2 Q.opEq (Q.var 6) (Q.con (.int 11)))) (Q.sret (Q.call 4 Ev.l_refused (Q.acons (Q.var 8) (Q.acons (Q.var 3) (Q.acons (Q.op2 Q.opAdd (Q.var 3) (Q.op2 Q.opMod (Q.var 7) (Q.con (.int 2)))) (Q.acons (Q.var 9) Q.anil)))))) Q.snop)
    (Q.sret (Q.call 4 Ev.l_refused (Q.acons (Q.var 8) (Q.acons (Q.var 3) (Q.acons (Q.var 4) (Q.acons (Q.var 9) Q.anil))))))))))))))))))))))
def law : List D → R := Q.fn 10 b_law
end Ev

set_option linter.all false
set_option maxRecDepth 10000
namespace Q
open PySem (Str)
/-! ### what a piece of the plain side comes to -/
def Wp (c : Ctl) (P : Ctl → Prop) : Prop := P c
theorem fn_wp {n : Nat} {b : XS} {ds : List D} {r : R} (h : Wp (b (enter n ds)) fun c => leave c = r) : fn n b ds = r := h
theorem fn_wpP {n : Nat} {b : XS} {ds : List D} (Pr : R → Prop) (h : Wp (b (enter n ds)) fun c => Pr (leave c)) : Pr (fn n b ds) := h
theorem fnI_wpP {c n : Nat} {b : XS} {ds : List D} (Pr : R → Prop) (h : Wp (b (.slf c [] :: enter (n - 1) ds)) fun r => Pr (leaveI c r)) : Pr (fnI c n b ds) := h
theorem fnIB_wpP {c n : Nat} {b : XS} {ds : List D} (Pr : R → Prop) (h : Wp (b (.slf c [] :: enterB (n - 1) ds)) fun r => Pr (leaveI c r)) : Pr (fnIB c n b ds) := h
theorem wp_bind {c : Ctl} {k : Env → Ctl} {P : Ctl → Prop} (h : Wp c fun c => Wp (c.bind k) P) : Wp (c.bind k) P := h
theorem wp_imp {c : Ctl} {P P' : Ctl → Prop} (h : Wp c P) (i : ∀ c, P c → P' c) : Wp c P' := i c h
/-- the ways meet again -/
theorem wp_join {c : Ctl} {f : Env → Ctl} {P : Ctl → Prop} (Q : Env → Prop) (h : Wp c fun c => ∃ e, c = .nx e ∧ Q e) (k : ∀ e, Q e → Wp (f e) P) : Wp (c.bind f) P := by
  obtain ⟨e, rfl, q⟩ := h
  exact k e q
def Nx (I : Env → Prop) (P : Ctl → Prop) : Ctl → Prop
  | .nx e => I e
  | .ct e => I e
  | .bk e => P (.nx e)
  | c => P c
@[simp] theorem Nx_nx {I P e} : Nx I P (.nx e) = I e := rfl
@[simp] theorem Nx_ct {I P e} : Nx I P (.ct e) = I e := rfl
@[simp] theorem Nx_bk {I P e} : Nx I P (.bk e) = P (.nx e) := rfl
@[simp] theorem Nx_rt {I P d c e} : Nx I P (.rt d c e) = P (.rt d c e) := rfl
@[simp] theorem Nx_exc {I P k fs e} : Nx I P (.exc k fs e) = P (.exc k fs e) := rfl
@[simp] theorem Nx_bad {I P} : Nx I P .bad = P .bad := rfl
/-- a walk: I k holds ahead of the k-th turn -/
theorem wp_for {p : Pat} {b : XS} {ds : List D} {e : Env} {P : Ctl → Prop} (I : Nat → Env → Prop) (h0 : I 0 e)
    (step : ∀ k d e, ds[k]? = some d → I k e → ∃ e1, p.put d e = some e1 ∧ Wp (b e1) (Nx (I (k + 1)) P)) (fin : ∀ e, I ds.length e → P (.nx e)) : Wp (forL p b ds e) P := by
  induction ds generalizing e I with
  | nil => exact fin e h0
  | cons d r ih =>
    obtain ⟨e1, hp, hb⟩ := step 0 d e rfl h0
    unfold Wp at hb ⊢
    rw [forL, hp]
    simp only []
    have go : ∀ e2, I 1 e2 → P (forL p b r e2) := fun e2 h => ih (fun k => I (k + 1)) h (fun k d e g => step (k + 1) d e g) fin
    cases q : b e1 with
    | nx e2 => rw [q] at hb; exact go e2 hb
    | ct e2 => rw [q] at hb; exact go e2 hb
    | bk e2 => rw [q] at hb; exact hb
    | rt d c e2 => rw [q] at hb; exact hb
    | exc k fs e2 => rw [q] at hb; exact hb
    | bad => rw [q] at hb; exact hb
/-- a walk over the images of a list: I says what holds when the items ahead are done -/
theorem wp_list {α : Type} {p : Pat} {b : XS} {xs : List α} {f : α → D} {e : Env} {P : Ctl → Prop} (I : List α → Env → Prop) (h0 : I [] e)
    (step : ∀ pre x suf e, xs = pre ++ x :: suf → I pre e → ∃ e1, p.put (f x) e = some e1 ∧ Wp (b e1) (Nx (I (pre ++ [x])) P)) (fin : ∀ e, I xs e → P (.nx e)) : Wp (forL p b (xs.map f) e) P := by
  refine wp_for (fun k e => I (xs.take k) e) (by simpa using h0) (fun k d e g h => ?_) fun e h => fin e (by simpa using h)
  simp only [List.getElem?_map, Option.map_eq_some_iff] at g
  obtain ⟨x, g, rfl⟩ := g
  obtain ⟨hk, hx⟩ := List.getElem?_eq_some_iff.mp g
  have e1 : xs = xs.take k ++ x :: xs.drop (k + 1) := by
    rw [← hx, ← List.drop_eq_getElem_cons hk, List.take_append_drop]
  have e2 : xs.take (k + 1) = xs.take k ++ [x] := by rw [List.take_add_one, g]; rfl
  obtain ⟨e', a, b⟩ := step _ x _ e e1 h
  exact ⟨e', a, by rw [e2]; exact b⟩
theorem wp_listE {α : Type} {p : Pat} {b : XS} {xs : List α} {f : α → D} {ds : List D} {e : Env} {P : Ctl → Prop} (hd : ds = xs.map f) (I : List α → Env → Prop) (h0 : I [] e)
    (step : ∀ pre x suf e, xs = pre ++ x :: suf → I pre e → ∃ e1, p.put (f x) e = some e1 ∧ Wp (b e1) (Nx (I (pre ++ [x])) P)) (fin : ∀ e, I xs e → P (.nx e)) : Wp (forL p b ds e) P := by
  subst hd; exact wp_list I h0 step fin
theorem rng_len (lo hi : Int) : (rng lo hi).length = (hi - lo).toNat := by simp [rng]
theorem rng_get {lo hi : Int} {k : Nat} {d : D} (h : ((rng lo hi).map D.int)[k]? = some d) : d = .int (lo + k) ∧ lo + k < hi := by
  simp only [rng, List.getElem?_map, List.map_map, Option.map_eq_some_iff] at h
  obtain ⟨a, h1, rfl⟩ := h
  obtain ⟨hk, rfl⟩ := List.getElem?_eq_some_iff.mp h1
  simp at hk ⊢
  omega
/-- for i in range(lo, hi) -/
theorem wp_rng {i : Nat} {b : XS} {lo hi : Int} {e : Env} {P : Ctl → Prop} (I : Int → Env → Prop) (h0 : I lo e)
    (step : ∀ k e, lo ≤ k → k < hi → I k e → Wp (b (e.set i (.cold (.int k)))) (Nx (I (k + 1)) P))
    (fin : ∀ e, I (if lo ≤ hi then hi else lo) e → P (.nx e)) : Wp (forL (.nm i) b ((rng lo hi).map D.int) e) P := by
  refine wp_for (fun k => I (lo + k)) (by simpa using h0) (fun k d e g h => ?_) fun e h => ?_
  · obtain ⟨rfl, hk⟩ := rng_get g
    refine ⟨_, rfl, ?_⟩
    have := step (lo + k) e (by omega) hk h
    have e1 : lo + (k : Int) + 1 = lo + ((k + 1 : Nat) : Int) := by omega
    rw [e1] at this
    exact this
  · refine fin e ?_
    have e1 : lo + ((((rng lo hi).map D.int).length : Nat) : Int) = if lo ≤ hi then hi else lo := by
      rw [List.length_map, rng_len]; split <;> omega
    rw [← e1]; exact h
/-! ### places -/
theorem ixN_of {n : Nat} {i : Int} (h0 : 0 ≤ i) (h1 : i < n) : ixN n i = some i.toNat := by simp [ixN, h0, h1]
theorem atI_of {α : Type} {xs : List α} {i : Int} (h0 : 0 ≤ i) (h1 : i < xs.length) : atI xs i = some (xs[i.toNat]'(by omega)) := by
  simp [atI, ixN_of h0 h1]
theorem atI_map {α β : Type} {xs : List α} {i : Int} (f : α → β) (h0 : 0 ≤ i) (h1 : i < xs.length) : atI (xs.map f) i = some (f (xs[i.toNat]'(by omega))) := by
  rw [atI_of h0 (by simpa using h1)]; simp
/-- the place i of a list of whole numbers -/
def gt (xs : List Int) (i : Int) : Int := xs.getD i.toNat 0
theorem atI_gt {xs : List Int} {i : Int} (h0 : 0 ≤ i) (h1 : i < xs.length) : atI (xs.map D.int) i = some (.int (gt xs i)) := by
  rw [atI_map _ h0 h1, gt, List.getD_eq_getElem?_getD, List.getElem?_eq_getElem (by omega)]; rfl
theorem atI_gtN {xs : List Int} {i : Int} (h0 : 0 ≤ i) (h1 : i < xs.length) : atI xs i = some (gt xs i) := by
  rw [atI_of h0 h1, gt, List.getD_eq_getElem?_getD, List.getElem?_eq_getElem (by omega)]; rfl
theorem gt_mem {xs : List Int} {i : Int} (h0 : 0 ≤ i) (h1 : i < xs.length) : gt xs i ∈ xs := by
  rw [gt, List.getD_eq_getElem?_getD, List.getElem?_eq_getElem (by omega)]; exact List.getElem_mem _
theorem atI_last {α : Type} {xs : List α} {x : α} : atI (xs ++ [x]) (-1) = some x := by
  have e : ixN (xs ++ [x]).length (-1) = some xs.length := by
    unfold ixN
    rw [if_neg (by omega), if_pos (by simp; omega)]
    simp
    omega
  rw [atI, e]
  simp
theorem at0 {α : Type} (a : α) (xs : List α) : atI (a :: xs) 0 = some a := by
  have h : ixN (a :: xs).length 0 = some 0 := by unfold ixN; rw [if_pos (by decide), if_pos (by simp only [List.length_cons]; omega)]; rfl
  rw [atI, h]; rfl
theorem at1 {α : Type} (a b : α) (xs : List α) : atI (a :: b :: xs) 1 = some b := by
  have h : ixN (a :: b :: xs).length 1 = some 1 := by unfold ixN; rw [if_pos (by decide), if_pos (by simp only [List.length_cons]; omega)]; rfl
  rw [atI, h]; rfl
theorem at2 {α : Type} (a b c : α) (xs : List α) : atI (a :: b :: c :: xs) 2 = some c := by
  have h : ixN (a :: b :: c :: xs).length 2 = some 2 := by unfold ixN; rw [if_pos (by decide), if_pos (by simp only [List.length_cons]; omega)]; rfl
  rw [atI, h]; rfl
theorem at3 {α : Type} (a b c d : α) (xs : List α) : atI (a :: b :: c :: d :: xs) 3 = some d := by
  have h : ixN (a :: b :: c :: d :: xs).length 3 = some 3 := by unfold ixN; rw [if_pos (by decide), if_pos (by simp only [List.length_cons]; omega)]; rfl
  rw [atI, h]; rfl
theorem at4 {α : Type} (a b c d e : α) (xs : List α) : atI (a :: b :: c :: d :: e :: xs) 4 = some e := by
  have h : ixN (a :: b :: c :: d :: e :: xs).length 4 = some 4 := by unfold ixN; rw [if_pos (by decide), if_pos (by simp only [List.length_cons]; omega)]; rfl
  rw [atI, h]; rfl
theorem at5 {α : Type} (a b c d e f : α) (xs : List α) : atI (a :: b :: c :: d :: e :: f :: xs) 5 = some f := by
  have h : ixN (a :: b :: c :: d :: e :: f :: xs).length 5 = some 5 := by unfold ixN; rw [if_pos (by decide), if_pos (by simp only [List.length_cons]; omega)]; rfl
  rw [atI, h]; rfl
theorem at6 {α : Type} (a b c d e f g : α) (xs : List α) : atI (a :: b :: c :: d :: e :: f :: g :: xs) 6 = some g := by
  have h : ixN (a :: b :: c :: d :: e :: f :: g :: xs).length 6 = some 6 := by unfold ixN; rw [if_pos (by decide), if_pos (by simp only [List.length_cons]; omega)]; rfl
  rw [atI, h]; rfl
theorem at7 {α : Type} (a b c d e f g h : α) (xs : List α) : atI (a :: b :: c :: d :: e :: f :: g :: h :: xs) 7 = some h := by
  have h : ixN (a :: b :: c :: d :: e :: f :: g :: h :: xs).length 7 = some 7 := by unfold ixN; rw [if_pos (by decide), if_pos (by simp only [List.length_cons]; omega)]; rfl
  rw [atI, h]; rfl
theorem ixN_neg {n : Nat} (h : 1 ≤ n) : ixN n (-1) = some (n - 1) := by
  unfold ixN
  rw [if_neg (by omega), if_pos (by omega)]
  congr 1
  omega
theorem sIx_le {n d : Nat} (hd : d ≤ n) (o : Option Int) : sIx n d o ≤ n := by
  unfold sIx; split
  · exact hd
  · split <;> omega
theorem mul_le {a b x y : Int} (h0 : 0 ≤ a) (h1 : a ≤ x) (h2 : 0 ≤ b) (h3 : b ≤ y) : a * b ≤ x * y :=
  Int.le_trans (Int.mul_le_mul_of_nonneg_right h1 h2) (Int.mul_le_mul_of_nonneg_left h3 (Int.le_trans h0 h1))
theorem sq_le {a n : Int} (h : -n ≤ a) (h' : a ≤ n) : a * a ≤ n * n := by
  rcases Int.le_total 0 a with p | p
  · exact mul_le p h' p h'
  · have := mul_le (a := -a) (b := -a) (x := n) (y := n) (by omega) (by omega) (by omega) (by omega)
    rwa [Int.neg_mul_neg] at this
theorem sq_nn (a : Int) : 0 ≤ a * a := by
  rcases Int.le_total 0 a with p | p
  · exact Int.mul_nonneg p p
  · have := Int.mul_nonneg (a := -a) (b := -a) (by omega) (by omega)
    rwa [Int.neg_mul_neg] at this
mutual
theorem eqv_refl : ∀ d : D, d.plain = true → D.eqv d d = true
  | .non, _ => rfl
  | .bl _, _ => by simp [D.eqv]
  | .int _, _ => by simp [D.eqv]
  | .str _, _ => by simp [D.eqv]
  | .tup xs, h => by rw [D.eqv]; rw [D.plain] at h; exact eqvs_refl xs h
  | .lst xs, h => by rw [D.eqv]; rw [D.plain] at h; exact eqvs_refl xs h
  | .frz _, h => by simp [D.plain] at h
  | .obj _ _, h => by simp [D.plain] at h
theorem eqvs_refl : ∀ ds : List D, D.plains ds = true → D.eqvs ds ds = true
  | [], _ => rfl
  | x :: xs, h => by
    rw [D.plains, Bool.and_eq_true] at h
    rw [D.eqvs, eqv_refl x h.1, eqvs_refl xs h.2]; rfl
end
theorem plains_all : ∀ {ds : List D}, (∀ d ∈ ds, d.plain = true) → D.plains ds = true
  | [], _ => rfl
  | x :: xs, h => by rw [D.plains, h x (by simp), plains_all fun d hd => h d (by simp [hd])]; rfl
theorem depths_le : ∀ {ds : List D} {n : Nat}, (∀ d ∈ ds, d.depth ≤ n) → D.depths ds ≤ n
  | [], _, _ => by simp [D.depths]
  | x :: xs, n, h => by
    rw [D.depths]
    have := h x (by simp)
    have := depths_le (ds := xs) fun d hd => h d (by simp [hd])
    omega
theorem ne_self {d : D} (h : d.plain = true) (h2 : d.depth ≤ 64) : opNeP d d = some (.bl false) := by
  simp [h, h2, eqv_refl d h]
theorem eq_self' {d : D} (h : d.plain = true) (h2 : d.depth ≤ 64) : opEqP d d = some (.bl true) := by
  simp [h, h2, eqv_refl d h]
/-! ### comprehensions -/
theorem lc_map {p : Pat} {t : XB} {x : X} {e : Env} {f : Int → D} {n : List Int} {acc : List D}
    (h : ∀ i ∈ n, lcTurn p t x e (.int i) = some (some (f i))) (hl : acc.length + n.length ≤ most) : lcLoop p t x e (n.map D.int) acc = some (acc ++ n.map f) := by
  induction n generalizing acc with
  | nil => simp [lcLoop]
  | cons a r ih =>
    rw [List.map_cons, lcLoop, h a (by simp)]
    simp only [List.length_cons] at hl
    simp only []
    rw [if_pos (by omega), ih (fun i hi => h i (by simp [hi])) (by simp; omega)]
    simp
theorem lc_mapA {α : Type} {p : Pat} {t : XB} {x : X} {e : Env} {f : α → D} {g : α → D} {n : List α} {acc : List D}
    (h : ∀ i ∈ n, lcTurn p t x e (f i) = some (some (g i))) (hl : acc.length + n.length ≤ most) : lcLoop p t x e (n.map f) acc = some (acc ++ n.map g) := by
  induction n generalizing acc with
  | nil => simp [lcLoop]
  | cons a r ih =>
    rw [List.map_cons, lcLoop, h a (by simp)]
    simp only [List.length_cons] at hl
    simp only []
    rw [if_pos (by omega), ih (fun i hi => h i (by simp [hi])) (by simp; omega)]
    simp
theorem lc_rng {i : Nat} {t : XB} {x : X} {e : Env} {g : Int → D} {lo hi : Int}
    (h : ∀ k, lo ≤ k → k < hi → lcTurn (.nm i) t x e (.int k) = some (some (g k))) (hl : hi - lo ≤ 1000000) : lcLoop (.nm i) t x e ((rng lo hi).map .int) [] = some ((rng lo hi).map g) := by
  have := lc_mapA (p := .nm i) (t := t) (x := x) (e := e) (f := D.int) (g := g) (n := rng lo hi) (acc := []) (fun k hk => by
    simp only [rng, List.mem_map, List.mem_range] at hk
    obtain ⟨a, h', rfl⟩ := hk
    exact h _ (by omega) (by omega)) (by simp [rng, most]; omega)
  simpa using this
theorem mem_rng {lo hi i : Int} : i ∈ rng lo hi ↔ lo ≤ i ∧ i < hi := by
  simp only [rng, List.mem_map, List.mem_range]
  constructor
  · rintro ⟨a, h, rfl⟩; omega
  · intro h; exact ⟨(i - lo).toNat, by omega, by omega⟩

/-! ### the forms once more, each with its match by name -/
def varS : Option S → R
  | some (.cold d) => .ok d .cold
  | some (.hot ds) => .ok (.lst ds) .hot
  | some (.hob c ds) => .ok (.obj c ds) .hot
  | some (.slf c ds) => .ok (.obj c ds) .hot
  | some (.bor d) => .ok d .taint
  | _ => .bad
def chS (o : Option D) (r : R) : R := match o with
  | some (.bl true) => r
  | some (.bl false) => .ok (.bl false) .cold
  | _ => .bad
def orS (o : Option D) (r : R) : R := match o with
  | some (.bl true) => .ok (.bl true) .cold
  | some (.bl false) => r
  | _ => .bad
def tstS : D → RB
  | .bl b => .ok b
  | _ => .bad
def acS (d : D) (c : Cl) (r : RA) : RA := match r with
  | .ok ds t => .ok (d :: ds) (dirty c d || t)
  | .exc k fs => .exc k fs
  | .bad => .bad
def orR (r s : R) : R := match r with
  | .bad => s
  | r => r
def methS (n m : Nat) (g : List D → R) (d : D) (c : Cl) (r : RA) : R := match d with
  | .obj k fs => if k = n then r.bind fun ds t => (if ds.length = m then ended (dirty c d || t) (g (.obj k fs :: ds)) else .bad) else .bad
  | _ => .bad
def fldX (c : Cl) : Option D → R
  | some x => .ok x (part c x)
  | none => .bad
def fldS (n k : Nat) (d : D) (c : Cl) : R := match d with
  | .obj m fs => if m = n then fldX c fs[k]? else .bad
  | _ => .bad
def osR : R → Option (Option Int)
  | .ok (.int i) _ => some (some i)
  | _ => none
def liS (c : Cl) : Option (List D) → R
  | some ds => .ok (.lst ds) (again c ds)
  | none => .bad
def isR : Option Bool → R
  | some b => .ok (.bl b) .cold
  | none => .bad
def ilS (c : Cl) (x : D) : RA := match c, x with
  | .cold, .lst ds => .ok ds false
  | .fresh, .lst ds => .ok ds false
  | .cold, .frz ns => .ok (ns.map D.int) false
  | _, _ => .bad
def itS (c : Cl) (x : D) : RA := match c, x with
  | .cold, .tup ds => .ok ds false
  | _, _ => .bad
def irS (x y : D) : RA := match x, y with
  | .int l, .int h => if (-lim ≤ l ∧ l < lim) ∧ -lim ≤ h ∧ h < lim then .ok ((rng l h).map D.int) false else .bad
  | _, _ => .bad
def irS1 (x : D) : RA := match x with
  | .int h => if -lim ≤ h ∧ h < lim then .ok ((rng 0 h).map D.int) false else .bad
  | _ => .bad
def scS (c : Cl) (x : D) (lo hi : Option (Option Int)) : R := match lo, hi with
  | some l, some h => (match x with
    | .lst xs => .ok (.lst (cut xs l h)) (again c (cut xs l h))
    | .frz ns => .ok (.lst ((cut ns l h).map D.int)) .fresh
    | .tup xs => if sIx xs.length 0 l = 0 ∧ sIx xs.length xs.length h = xs.length then .bad else .ok (.tup (cut xs l h)) (part c (.tup (cut xs l h)))
    | _ => .bad)
  | _, _ => .bad
def ag2 (a b : Cl) : Cl := match a, b with
  | .fresh, .fresh => .fresh
  | _, _ => .taint
def ctS (x : D) (c : Cl) (y : D) (c' : Cl) : R := match x, y with
  | .lst xs, .lst ys => if xs.length + ys.length ≤ most then .ok (.lst (xs ++ ys)) (ag2 (again c xs) (again c' ys)) else .bad
  | _, _ => .bad
def rpS (x : D) (c : Cl) (y : D) : R := match x, y with
  | .lst xs, .int k => if k ≤ 1000000 ∧ -1000000 ≤ k ∧ xs.length * k.toNat ≤ most then .ok (.lst (repD xs k)) (again c xs) else .bad
  | _, _ => .bad
def toS (c : Cl) (x : D) : R := match x with
  | .lst ds => .ok (.tup ds) (part c (.tup ds))
  | .tup ds => .ok (.tup ds) (part c (.tup ds))
  | _ => .bad
def lrS (x y : D) : R := match x, y with
  | .int a, .int b => if (-4000000000 < a ∧ a < 4000000000) ∧ (-4000000000 < b ∧ b < 4000000000) ∧ b - a ≤ 1000000 then .ok (.lst ((rng a b).map D.int)) .fresh else .bad
  | _, _ => .bad
def soT : Option (List Int) → R
  | some ns => .ok (.lst ((sortI ns).map D.int)) .fresh
  | none => .bad
def soS (x : D) : R := match x with
  | .lst ds => soT (intsD ds)
  | _ => .bad
def lcT : Option (List D) → R
  | some ys => .ok (.lst ys) .fresh
  | none => .bad
def lcR (r : RA) (f : List D → Option (List D)) : R := match r with
  | .ok ds _ => lcT (f ds)
  | _ => .bad
def absI (i : Int) : Int := if i < 0 then -i else i
theorem absI_comm (a b : Int) : absI (a - b) = absI (b - a) := by unfold absI; split <;> split <;> omega
theorem absI_nn (a : Int) : 0 ≤ absI a := by unfold absI; split <;> omega
theorem absI_lt {a b n : Int} (h0 : 0 ≤ a) (h1 : a < n) (h2 : 0 ≤ b) (h3 : b < n) : absI (a - b) < n := by unfold absI; split <;> omega
def scl (i : Nat) (e : Env) : Option S → Ctl
  | some (.hot _) => .nx (e.set i (.hot []))
  | _ => .bad
def trY (i : Nat) (h : XS) (k : Nat) (fs : List D) (e : Env) (o : Option Bool) : Ctl := match o with
  | some true => sufC i (h ((offE e).set i (.exn k fs)))
  | some false => .exc k fs e
  | none => .bad
def trX (i : Nat) (m : Nat → Option Bool) (h : XS) (r : Ctl) : Ctl := match r with
  | .exc k fs e => trY i h k fs e (m k)
  | r => r
def off1 (s : S) : S := match s with
  | .exn _ _ => .no
  | s => s
def exR (n : Nat) (r : Bool) (o : Option S) : R := match o with
  | some (.exn k []) => if k = n then .ok (.bl r) .cold else .bad
  | _ => .bad
def exF (n j : Nat) (o : Option S) : R := match o with
  | some (.exn k fs) => if k = n then fldX .cold fs[j]? else .bad
  | _ => .bad
def tryR (r : Ctl) : Ctl := match r with
  | .exc _ _ _ => .bad
  | r => r
def ssS (i : Nat) (e : Env) (d : D) (b : Bool) : Ctl := if b then .bad else .nx (e.set i (.cold d))
def shS (i : Nat) (e : Env) (c : Cl) (d : D) : Ctl := match c, d with
  | .fresh, .lst ds => .nx (e.set i (.hot ds))
  | .fresh, .obj k ds => .nx (e.set i (.hob k ds))
  | _, _ => .bad
def sfS (i : Nat) (e : Env) : Option S → Ctl
  | some (.hot ds) => .nx (e.set i (.cold (.lst ds)))
  | _ => .bad
def suT : Option Env → Ctl
  | some e1 => .nx e1
  | none => .bad
def suS (is : List Nat) (e : Env) (d : D) (b : Bool) : Ctl := if b then .bad else suT (Pat.put (.tp is) d e)
def saT (i : Nat) (e : Env) : Option D → Ctl
  | some z => .nx (e.set i (.cold z))
  | none => .bad
def saS (i : Nat) (f : D → D → Option D) (r : R) (e : Env) : Option S → Ctl
  | some (.cold x) => r.bindS e fun y _ => saT i e (f x y)
  | _ => .bad
def spS (i : Nat) (r : R) (e : Env) : Option S → Ctl
  | some (.hot ds) => r.bindS e fun d c => if dirty c d then .bad else if ds.length < most then .nx (e.set i (.hot (ds ++ [d]))) else .bad
  | _ => .bad
def sxT (i : Nat) (e : Env) (ds : List D) (c : Cl) (d : D) : Ctl := match c, d with
  | .fresh, .lst ys => if ds.length + ys.length ≤ most then .nx (e.set i (.hot (ds ++ ys))) else .bad
  | _, _ => .bad
def sxS (i : Nat) (r : R) (e : Env) : Option S → Ctl
  | some (.hot ds) => r.bindS e fun d c => sxT i e ds c d
  | _ => .bad
def stU (i : Nat) (e : Env) (ds : List D) (d : D) : Option Nat → Ctl
  | some j => .nx (e.set i (.hot (ds.set j d)))
  | none => .bad
def stT (i : Nat) (e : Env) (ds : List D) (d : D) (y : D) : Ctl := match y with
  | .int z => stU i e ds d (ixN ds.length z)
  | _ => .bad
def stS (i : Nat) (k r : R) (e : Env) : Option S → Ctl
  | some (.hot ds) => r.bindS e fun d c => if dirty c d then .bad else k.bindS e fun y _ => stT i e ds d y
  | _ => .bad
def slT (n i : Nat) (e : Env) : Option (List D) → Ctl
  | some es => .nx (e.set i (.slf n es))
  | none => .bad
def slU (n i : Nat) (e : Env) : Option (List D) → Ctl
  | some es => .nx (e.set i (.hob n es))
  | none => .bad
def slS (n i k : Nat) (r : R) (e : Env) : Option S → Ctl
  | some (.slf m ds) => if m = n then r.bindS e fun d c => (if dirty c d then .bad else slT n i e (putK n k ds d)) else .bad
  | some (.hob m ds) => if m = n then r.bindS e fun d c => (if dirty c d then .bad else slU n i e (putK n k ds d)) else .bad
  | _ => .bad
def foS (p : Pat) (b : XS) (r : RA) (e : Env) : Ctl := match r with
  | .ok ds _ => forL p b ds e
  | _ => .bad
theorem ev0 : ∀ d c f, R.bind (.ok d c) f = f d c := by intros; rfl
theorem ev1 : ∀ k fs f, R.bind (.exc k fs) f = .exc k fs := by intros; rfl
theorem ev2 : ∀ f, R.bind .bad f = .bad := by intros; rfl
theorem ev3 : ∀ d c f, R.bindA (.ok d c) f = f d c := by intros; rfl
theorem ev4 : ∀ k fs f, R.bindA (.exc k fs) f = .exc k fs := by intros; rfl
theorem ev5 : ∀ f, R.bindA .bad f = .bad := by intros; rfl
theorem ev6 : ∀ d c f, R.bindB (.ok d c) f = f d c := by intros; rfl
theorem ev7 : ∀ k fs f, R.bindB (.exc k fs) f = .exc k fs := by intros; rfl
theorem ev8 : ∀ f, R.bindB .bad f = .bad := by intros; rfl
theorem ev9 : ∀ d c f, RA.bind (.ok d c) f = f d c := by intros; rfl
theorem ev10 : ∀ k fs f, RA.bind (.exc k fs) f = .exc k fs := by intros; rfl
theorem ev11 : ∀ f, RA.bind .bad f = .bad := by intros; rfl
theorem ev12 : ∀ b f, RB.bind (.ok b) f = f b := by intros; rfl
theorem ev13 : ∀ k fs f, RB.bind (.exc k fs) f = .exc k fs := by intros; rfl
theorem ev14 : ∀ f, RB.bind .bad f = .bad := by intros; rfl
theorem ev15 : ∀ b f, RB.bindB (.ok b) f = f b := by intros; rfl
theorem ev16 : ∀ k fs f, RB.bindB (.exc k fs) f = .exc k fs := by intros; rfl
theorem ev17 : ∀ f, RB.bindB .bad f = .bad := by intros; rfl
theorem ev18 : ∀ e d c f, R.bindS (.ok d c) e f = f d c := by intros; rfl
theorem ev19 : ∀ e k fs f, R.bindS (.exc k fs) e f = .exc k fs e := by intros; rfl
theorem ev20 : ∀ e f, R.bindS .bad e f = .bad := by intros; rfl
theorem ev21 : ∀ e b f, RB.bindS (.ok b) e f = f b := by intros; rfl
theorem ev22 : ∀ e k fs f, RB.bindS (.exc k fs) e f = .exc k fs e := by intros; rfl
theorem ev23 : ∀ e f, RB.bindS .bad e f = .bad := by intros; rfl
theorem ev24 : ∀ e f, Ctl.bind (.nx e) f = f e := by intros; rfl
theorem ev25 : ∀ d c e f, Ctl.bind (.rt d c e) f = .rt d c e := by intros; rfl
theorem ev26 : ∀ e f, Ctl.bind (.bk e) f = .bk e := by intros; rfl
theorem ev27 : ∀ e f, Ctl.bind (.ct e) f = .ct e := by intros; rfl
theorem ev28 : ∀ k fs e f, Ctl.bind (.exc k fs e) f = .exc k fs e := by intros; rfl
theorem ev29 : ∀ f, Ctl.bind .bad f = .bad := by intros; rfl
theorem ev30 : ∀ d, ofO (some d) = .ok d .cold := by intros; rfl
theorem ev31 : ofO none = .bad := by intros; rfl
theorem ev32 : ∀ i e, var i e = varS (e[i]?) := by intros; rfl
theorem ev33 : ∀ d, varS (some (.cold d)) = .ok d .cold := by intros; rfl
theorem ev34 : ∀ ds, varS (some (.hot ds)) = .ok (.lst ds) .hot := by intros; rfl
theorem ev35 : ∀ c ds, varS (some (.hob c ds)) = .ok (.obj c ds) .hot := by intros; rfl
theorem ev36 : ∀ c ds, varS (some (.slf c ds)) = .ok (.obj c ds) .hot := by intros; rfl
theorem ev37 : ∀ d, varS (some (.bor d)) = .ok d .taint := by intros; rfl
theorem ev38 : ∀ d e, con d e = .ok d .cold := by intros; rfl
theorem ev39 : ∀ f a e, op1 f a e = (a e).bind fun x _ => ofO (f x) := by intros; rfl
theorem ev40 : ∀ f a b e, op2 f a b e = (a e).bind fun x _ => (b e).bind fun y _ => ofO (f x y) := by intros; rfl
theorem ev41 : ∀ f g a b c e, chain f g a b c e = (a e).bind fun x _ => (b e).bind fun y _ => chS (f x y) ((c e).bind fun z _ => ofO (g y z)) := by intros; rfl
theorem ev42 : ∀ r, chS (some (.bl true)) r = r := by intros; rfl
theorem ev43 : ∀ r, chS (some (.bl false)) r = .ok (.bl false) .cold := by intros; rfl
theorem ev44 : ∀ b r, chS (some (.bl b)) r = if b = true then r else .ok (.bl false) .cold := by intro b r; cases b <;> rfl
theorem ev45 : ∀ a e, tst a e = (a e).bindB fun d _ => tstS d := by intros; rfl
theorem ev46 : ∀ b, tstS (.bl b) = .ok b := by intros; rfl
theorem ev47 : ∀ a b e, tand a b e = (a e).bindB fun k => if k then b e else .ok false := by intros; rfl
theorem ev48 : ∀ a b e, tor a b e = (a e).bindB fun k => if k then .ok true else b e := by intros; rfl
theorem ev49 : ∀ a e, tnot a e = (a e).bindB fun k => .ok (!k) := by intros; rfl
theorem ev50 : ∀ e, tyes e = .ok true := by intros; rfl
theorem ev51 : ∀ a b e, vand a b e = (a e).bind fun d _ => chS (some d) (b e) := by intro a b e; simp only [vand, vor]; cases a e with | ok d c => (cases d <;> try rfl); rename_i k; cases k <;> rfl | exc => rfl | bad => rfl
theorem ev52 : ∀ a b e, vor a b e = (a e).bind fun d _ => orS (some d) (b e) := by intro a b e; simp only [vand, vor]; cases a e with | ok d c => (cases d <;> try rfl); rename_i k; cases k <;> rfl | exc => rfl | bad => rfl
theorem ev53 : ∀ r, orS (some (.bl true)) r = .ok (.bl true) .cold := by intros; rfl
theorem ev54 : ∀ r, orS (some (.bl false)) r = r := by intros; rfl
theorem ev55 : ∀ b r, orS (some (.bl b)) r = if b = true then .ok (.bl true) .cold else r := by intro b r; cases b <;> rfl
theorem ev56 : ∀ a e, vnot a e = (a e).bind fun d _ => (tstS d).bind fun b => .ok (.bl (!b)) .cold := by intro a e; simp only [vnot]; cases a e with | ok d c => cases d <;> rfl | exc => rfl | bad => rfl
theorem ev57 : ∀ t a b e, cond t a b e = (t e).bind fun k => if k then a e else b e := by intros; rfl
theorem ev58 : ∀ d, dirty .cold d = false := by intros; rfl
theorem ev59 : ∀ d, dirty .fresh d = false := by intros; rfl
theorem ev60 : ∀ d, dirty .hot d = true := by intros; rfl
theorem ev61 : ∀ d, dirty .taint d = !d.scalar := by intros; rfl
theorem ev62 : ∀ e, anil e = .ok [] false := by intros; rfl
theorem ev63 : ∀ a r e, acons a r e = (a e).bindA fun d c => acS d c (r e) := by intros; rfl
theorem ev64 : ∀ d c ds t, acS d c (.ok ds t) = .ok (d :: ds) (dirty c d || t) := by intros; rfl
theorem ev65 : ∀ d c k fs, acS d c (.exc k fs) = .exc k fs := by intros; rfl
theorem ev66 : ∀ d c, acS d c .bad = .bad := by intros; rfl
theorem ev67 : ∀ a e, tupx a e = (a e).bind fun ds t => if ds.length ≤ most then .ok (.tup ds) (if t then .taint else .cold) else .bad := by intros; rfl
theorem ev68 : ∀ a e, lstx a e = (a e).bind fun ds t => if ds.length ≤ most then .ok (.lst ds) (if t then .taint else .fresh) else .bad := by intros; rfl
theorem ev69 : ∀ d, part .cold d = .cold := by intros; rfl
theorem ev70 : ∀ d, part .fresh d = .cold := by intros; rfl
theorem ev71 : ∀ d, part .hot d = .cold := by intros; rfl
theorem ev72 : ∀ d, part .taint d = if d.scalar then .cold else .taint := by intros; rfl
theorem ev73 : ∀ d, post false d .fresh = .fresh := by intros; rfl
theorem ev74 : ∀ d, post false d .cold = .cold := by intros; rfl
theorem ev75 : ∀ d, post false d .hot = .cold := by intros; rfl
theorem ev76 : ∀ d, post false d .taint = .cold := by intros; rfl
theorem ev77 : ∀ d, post true d .fresh = if d.flat then .fresh else .taint := by intros; rfl
theorem ev78 : ∀ d, post true d .cold = if d.scalar then .cold else .taint := by intros; rfl
theorem ev79 : ∀ d, post true d .hot = if d.scalar then .cold else .taint := by intros; rfl
theorem ev80 : ∀ d, post true d .taint = if d.scalar then .cold else .taint := by intros; rfl
theorem ev81 : ∀ t d c, ended t (.ok d c) = .ok d (post t d c) := by intros; rfl
theorem ev82 : ∀ k fs, ended false (.exc k fs) = .exc k fs := by intros; rfl
theorem ev83 : ∀ k fs, ended true (.exc k fs) = if !fs.all D.scalar then .bad else .exc k fs := by intros; rfl
theorem ev84 : ∀ t, ended t .bad = .bad := by intros; rfl
theorem ev85 : ∀ n g a e, call n g a e = (a e).bind fun ds t => if ds.length = n then ended t (g ds) else .bad := by intros; rfl
theorem ev86 : ∀ t d c, made t false (.ok d c) = .ok d .fresh := by intros; rfl
theorem ev87 : ∀ t d c, made t true (.ok d c) = .ok d .taint := by intros; rfl
theorem ev88 : ∀ tk k fs, made false tk (.exc k fs) = .exc k fs := by intros; rfl
theorem ev89 : ∀ tk k fs, made true tk (.exc k fs) = if !fs.all D.scalar then .bad else .exc k fs := by intros; rfl
theorem ev90 : ∀ t tk, made t tk .bad = .bad := by intros; rfl
theorem ev91 : ∀ n g a e, mk n g a e = (a e).bind fun ds t => if ds.length = n then made t t (g ds) else .bad := by intros; rfl
theorem ev92 : ∀ n g a e, mkN n g a e = (a e).bind fun ds t => if ds.length = n then made t false (g ds) else .bad := by intros; rfl
theorem ev93 : ∀ a b e, orx a b e = orR (a e) (b e) := by intros; rfl
theorem ev94 : ∀ d c r, orR (.ok d c) r = .ok d c := by intros; rfl
theorem ev95 : ∀ k fs r, orR (.exc k fs) r = .exc k fs := by intros; rfl
theorem ev96 : ∀ r, orR .bad r = r := by intros; rfl
theorem ev97 : ∀ n m g o a e, meth n m g o a e = (o e).bind fun d c => methS n m g d c (a e) := by intros; rfl
theorem ev98 : ∀ n m g k fs c r, methS n m g (.obj k fs) c r = if k = n then r.bind fun ds t => (if ds.length = m then ended (dirty c (.obj k fs) || t) (g (.obj k fs :: ds)) else .bad) else .bad := by intros; rfl
theorem ev99 : ∀ n k o e, fld n k o e = (o e).bind fun d c => fldS n k d c := by intros; rfl
theorem ev100 : ∀ n k m fs c, fldS n k (.obj m fs) c = if m = n then (fldX c fs[k]?) else .bad := by intros; rfl
theorem ev101 : ∀ c x, fldX c (some x) = .ok x (part c x) := by intros; rfl
theorem ev102 : ∀ xs i, item (.lst xs) (.int i) = atI xs i := by intros; rfl
theorem ev103 : ∀ (a : D) xs, atI (a :: xs) 0 = some a := by exact at0
theorem ev104 : ∀ (a b : D) xs, atI (a :: b :: xs) 1 = some b := by exact at1
theorem ev105 : ∀ (a b c : D) xs, atI (a :: b :: c :: xs) 2 = some c := by exact at2
theorem ev106 : ∀ (a b c d : D) xs, atI (a :: b :: c :: d :: xs) 3 = some d := by exact at3
theorem ev107 : ∀ (a b c d e : D) xs, atI (a :: b :: c :: d :: e :: xs) 4 = some e := by exact at4
theorem ev108 : ∀ (a b c d e f : D) xs, atI (a :: b :: c :: d :: e :: f :: xs) 5 = some f := by exact at5
theorem ev109 : ∀ (a b c d e f g : D) xs, atI (a :: b :: c :: d :: e :: f :: g :: xs) 6 = some g := by exact at6
theorem ev110 : ∀ (a b c d e f g h : D) xs, atI (a :: b :: c :: d :: e :: f :: g :: h :: xs) 7 = some h := by exact at7
theorem ev111 : ∀ (xs : List D) x, atI (xs ++ [x]) (-1) = some x := by intros; exact atI_last
theorem ev112 : ∀ xs i, item (.tup xs) (.int i) = atI xs i := by intros; rfl
theorem ev113 : ∀ xs i, item (.frz xs) (.int i) = (atI xs i).map D.int := by intros; rfl
theorem ev114 : ∀ a b e, idx a b e = (a e).bind fun x c => (b e).bind fun y _ => fldX c (item x y) := by intros; rfl
theorem ev115 : ∀ e, onone e = some none := by intros; rfl
theorem ev116 : ∀ a e, osome a e = osR (a e) := by intros; rfl
theorem ev117 : ∀ i c, osR (.ok (.int i) c) = some (some i) := by intros; rfl
theorem ev118 : ∀ ds, again .cold ds = .fresh := by intros; rfl
theorem ev119 : ∀ ds, again .fresh ds = .fresh := by intros; rfl
theorem ev120 : ∀ ds, again .hot ds = .fresh := by intros; rfl
theorem ev121 : ∀ ds, again .taint ds = if ds.all D.scalar then .fresh else .taint := by intros; rfl
theorem ev122 : ∀ a lo hi e, slice a lo hi e = (a e).bind fun x c => scS c x (lo e) (hi e) := by intros; rfl
theorem ev123 : ∀ c xs l h, scS c (.lst xs) (some l) (some h) = .ok (.lst (cut xs l h)) (again c (cut xs l h)) := by intros; rfl
theorem ev124 : ∀ c ns l h, scS c (.frz ns) (some l) (some h) = .ok (.lst ((cut ns l h).map D.int)) .fresh := by intros; rfl
theorem ev125 : ∀ c xs l h, scS c (.tup xs) (some l) (some h) = if sIx xs.length 0 l = 0 ∧ sIx xs.length xs.length h = xs.length then .bad else .ok (.tup (cut xs l h)) (part c (.tup (cut xs l h))) := by intros; rfl
theorem ev126 : ∀ a b e, catx a b e = (a e).bind fun x c => (b e).bind fun y c' => ctS x c y c' := by intros; rfl
theorem ev127 : ∀ xs c ys c', ctS (.lst xs) c (.lst ys) c' = if xs.length + ys.length ≤ most then .ok (.lst (xs ++ ys)) (ag2 (again c xs) (again c' ys)) else .bad := by intros; rfl
theorem ev128 : ag2 .fresh .fresh = .fresh := by intros; rfl
theorem ev129 : ag2 .taint .fresh = .taint := by intros; rfl
theorem ev130 : ag2 .fresh .taint = .taint := by intros; rfl
theorem ev131 : ag2 .taint .taint = .taint := by intros; rfl
theorem ev132 : ∀ a b e, repx a b e = (a e).bind fun x c => (b e).bind fun y _ => rpS x c y := by intros; rfl
theorem ev133 : ∀ xs c k, rpS (.lst xs) c (.int k) = if k ≤ 1000000 ∧ -1000000 ≤ k ∧ xs.length * k.toNat ≤ most then .ok (.lst (repD xs k)) (again c xs) else .bad := by intros; rfl
theorem ev134 : ∀ a e, tupOf a e = (a e).bind fun x c => toS c x := by intros; rfl
theorem ev135 : ∀ c ds, toS c (.lst ds) = .ok (.tup ds) (part c (.tup ds)) := by intros; rfl
theorem ev136 : ∀ c ds, toS c (.tup ds) = .ok (.tup ds) (part c (.tup ds)) := by intros; rfl
theorem ev137 : ∀ lo hi e, listRng lo hi e = (lo e).bind fun x _ => (hi e).bind fun y _ => lrS x y := by intros; rfl
theorem ev138 : ∀ a b, lrS (.int a) (.int b) = if (-4000000000 < a ∧ a < 4000000000) ∧ (-4000000000 < b ∧ b < 4000000000) ∧ b - a ≤ 1000000 then .ok (.lst ((rng a b).map D.int)) .fresh else .bad := by intros; rfl
theorem ev139 : ∀ a e, sortedI a e = (a e).bind fun x _ => soS x := by intros; rfl
theorem ev140 : ∀ ds, soS (.lst ds) = soT (intsD ds) := by intros; rfl
theorem ev141 : ∀ ns, soT (some ns) = .ok (.lst ((sortI ns).map D.int)) .fresh := by intros; rfl
theorem ev142 : ∀ own it p t x e, lc own it p t x e = lcR (it e) fun ds => lcLoop p t x (wipeE e own) ds [] := by intros; rfl
theorem ev143 : ∀ ds t f, lcR (.ok ds t) f = lcT (f ds) := by intros; rfl
theorem ev144 : ∀ ys, lcT (some ys) = .ok (.lst ys) .fresh := by intros; rfl
theorem ev145 : ∀ e, wipeE e [] = e := by intros; rfl
theorem ev146 : ∀ e v vs, wipeE e (v :: vs) = (wipeE e vs).set v .no := by intros; rfl
theorem ev147 : ∀ x ds, opIn x (.lst ds) = (memP x ds).map D.bl := by intros; rfl
theorem ev148 : ∀ x ds, opIn x (.tup ds) = (memP x ds).map D.bl := by intros; rfl
theorem ev149 : ∀ x ds, opNotIn x (.lst ds) = (memP x ds).map fun b => D.bl (!b) := by intros; rfl
theorem ev150 : ∀ x ds, opNotIn x (.tup ds) = (memP x ds).map fun b => D.bl (!b) := by intros; rfl
theorem ev151 : ∀ ds, fSum (.lst ds) = (intsD ds).map fun ns => D.int ns.sum := by intros; rfl
theorem ev152 : ∀ ns, intsD (ns.map D.int) = some ns := by exact ints_map
theorem ev153 : ∀ ns, bools (ns.map D.bl) = some ns := by exact bools_map
theorem ev154 : ∀ ds, fAny (.lst ds) = (bools ds).map fun bs => D.bl (bs.any id) := by intros; rfl
theorem ev155 : ∀ ds, fAll (.lst ds) = (bools ds).map fun bs => D.bl (bs.all id) := by intros; rfl
theorem ev156 : ∀ xs, items (.lst xs) = some xs := by intros; rfl
theorem ev157 : ∀ xs, items (.tup xs) = some xs := by intros; rfl
theorem ev158 : ∀ xs, items (.frz xs) = some (xs.map D.int) := by intros; rfl
theorem ev159 : ∀ a e, listOf a e = (a e).bind fun x c => liS c (items x) := by intros; rfl
theorem ev160 : ∀ c ds, liS c (some ds) = .ok (.lst ds) (again c ds) := by intros; rfl
theorem ev161 : ∀ i j, opAdd (.int i) (.int j) = some (.int (i + j)) := by intros; rfl
theorem ev162 : ∀ i j, opSub (.int i) (.int j) = some (.int (i - j)) := by intros; rfl
theorem ev163 : ∀ i j, opMul (.int i) (.int j) = if (-big < i ∧ i < big) ∧ -big < j ∧ j < big then some (.int (i * j)) else none := by intros; rfl
theorem ev164 : ∀ i j, opDiv (.int i) (.int j) = if 0 < j ∧ j < big then some (.int (i / j)) else none := by intros; rfl
theorem ev165 : ∀ i j, opMod (.int i) (.int j) = if 0 < j then some (.int (i % j)) else none := by intros; rfl
theorem ev166 : ∀ i j, opPow (.int i) (.int j) = if 0 ≤ j ∧ j ≤ 1000 ∧ -1000 < i ∧ i < 1000 then some (.int (i ^ j.toNat)) else none := by intros; rfl
theorem ev167 : ∀ i, opNeg (.int i) = some (.int (-i)) := by intros; rfl
theorem ev168 : ∀ i j, opLt (.int i) (.int j) = some (.bl (decide (i < j))) := by intros; rfl
theorem ev169 : ∀ i j, opLe (.int i) (.int j) = some (.bl (decide (i ≤ j))) := by intros; rfl
theorem ev170 : ∀ i j, opGt (.int i) (.int j) = some (.bl (decide (j < i))) := by intros; rfl
theorem ev171 : ∀ i j, opGe (.int i) (.int j) = some (.bl (decide (j ≤ i))) := by intros; rfl
theorem ev172 : ∀ x y, opEq x y = (eqS x y).map D.bl := by intros; rfl
theorem ev173 : ∀ x y, opNe x y = (eqS x y).map fun b => D.bl (!b) := by intros; rfl
theorem ev174 : eqS .non .non = some true := by intros; rfl
theorem ev175 : ∀ i j, eqS (.int i) (.int j) = some (decide (i = j)) := by intros; rfl
theorem ev176 : ∀ i j, eqS (.bl i) (.bl j) = some (decide (i = j)) := by intros; rfl
theorem ev177 : ∀ i j, eqS (.str i) (.str j) = some (decide (i = j)) := by intros; rfl
theorem ev178 : ∀ i, eqS .non (.int i) = some false := by intros; rfl
theorem ev179 : ∀ i, eqS (.int i) .non = some false := by intros; rfl
theorem ev180 : ∀ xs, fLen (.lst xs) = some (.int xs.length) := by intros; rfl
theorem ev181 : ∀ xs, fLen (.tup xs) = some (.int xs.length) := by intros; rfl
theorem ev182 : ∀ xs, fLen (.frz xs) = some (.int xs.length) := by intros; rfl
theorem ev183 : ∀ i, fAbs (.int i) = some (.int (absI i)) := by intros; rfl
theorem ev184 : ∀ i j, fMax2 (.int i) (.int j) = some (.int (if j > i then j else i)) := by intros; rfl
theorem ev185 : ∀ i j, fMin2 (.int i) (.int j) = some (.int (if j < i then j else i)) := by intros; rfl
theorem ev186 : opIsN .non = some (.bl true) := by intros; rfl
theorem ev187 : ∀ i, opIsN (.int i) = some (.bl false) := by intros; rfl
theorem ev188 : ∀ i, opIsN (.bl i) = some (.bl false) := by intros; rfl
theorem ev189 : ∀ i, opIsN (.str i) = some (.bl false) := by intros; rfl
theorem ev190 : ∀ i, opIsN (.tup i) = some (.bl false) := by intros; rfl
theorem ev191 : ∀ i, opIsN (.lst i) = some (.bl false) := by intros; rfl
theorem ev192 : ∀ c i, opIsN (.obj c i) = some (.bl false) := by intros; rfl
theorem ev193 : opNotN .non = some (.bl false) := by intros; rfl
theorem ev194 : ∀ i, opNotN (.int i) = some (.bl true) := by intros; rfl
theorem ev195 : ∀ i, opNotN (.bl i) = some (.bl true) := by intros; rfl
theorem ev196 : ∀ i, opNotN (.str i) = some (.bl true) := by intros; rfl
theorem ev197 : ∀ i, opNotN (.tup i) = some (.bl true) := by intros; rfl
theorem ev198 : ∀ i, opNotN (.lst i) = some (.bl true) := by intros; rfl
theorem ev199 : ∀ c i, opNotN (.obj c i) = some (.bl true) := by intros; rfl
theorem ev200 : ∀ i e, sclear i e = scl i e e[i]? := by intros; rfl
theorem ev201 : ∀ i e ds, scl i e (some (.hot ds)) = .nx (e.set i (.hot [])) := by intros; rfl
theorem ev202 : isTup .non = some false := by intros; rfl
theorem ev203 : ∀ i, isTup (.bl i) = some false := by intros; rfl
theorem ev204 : ∀ i, isTup (.int i) = some false := by intros; rfl
theorem ev205 : ∀ i, isTup (.str i) = some false := by intros; rfl
theorem ev206 : ∀ i, isTup (.tup i) = some true := by intros; rfl
theorem ev207 : ∀ i, isTup (.lst i) = some false := by intros; rfl
theorem ev208 : isLst .non = some false := by intros; rfl
theorem ev209 : ∀ i, isLst (.bl i) = some false := by intros; rfl
theorem ev210 : ∀ i, isLst (.int i) = some false := by intros; rfl
theorem ev211 : ∀ i, isLst (.str i) = some false := by intros; rfl
theorem ev212 : ∀ i, isLst (.tup i) = some false := by intros; rfl
theorem ev213 : ∀ i, isLst (.lst i) = some true := by intros; rfl
theorem ev214 : isTL .non = some false := by intros; rfl
theorem ev215 : ∀ i, isTL (.bl i) = some false := by intros; rfl
theorem ev216 : ∀ i, isTL (.int i) = some false := by intros; rfl
theorem ev217 : ∀ i, isTL (.str i) = some false := by intros; rfl
theorem ev218 : ∀ i, isTL (.tup i) = some true := by intros; rfl
theorem ev219 : ∀ i, isTL (.lst i) = some true := by intros; rfl
theorem ev220 : isBl .non = some false := by intros; rfl
theorem ev221 : ∀ i, isBl (.bl i) = some true := by intros; rfl
theorem ev222 : ∀ i, isBl (.int i) = some false := by intros; rfl
theorem ev223 : ∀ i, isBl (.str i) = some false := by intros; rfl
theorem ev224 : ∀ i, isBl (.tup i) = some false := by intros; rfl
theorem ev225 : ∀ i, isBl (.lst i) = some false := by intros; rfl
theorem ev226 : isInt .non = some false := by intros; rfl
theorem ev227 : ∀ i, isInt (.bl i) = some true := by intros; rfl
theorem ev228 : ∀ i, isInt (.int i) = some true := by intros; rfl
theorem ev229 : ∀ i, isInt (.str i) = some false := by intros; rfl
theorem ev230 : ∀ i, isInt (.tup i) = some false := by intros; rfl
theorem ev231 : ∀ i, isInt (.lst i) = some false := by intros; rfl
theorem ev232 : isStr .non = some false := by intros; rfl
theorem ev233 : ∀ i, isStr (.bl i) = some false := by intros; rfl
theorem ev234 : ∀ i, isStr (.int i) = some false := by intros; rfl
theorem ev235 : ∀ i, isStr (.str i) = some true := by intros; rfl
theorem ev236 : ∀ i, isStr (.tup i) = some false := by intros; rfl
theorem ev237 : ∀ i, isStr (.lst i) = some false := by intros; rfl
theorem ev238 : ∀ p a e, isi p a e = (a e).bind fun d _ => isR (p d) := by intros; rfl
theorem ev239 : ∀ b, isR (some b) = .ok (.bl b) .cold := by intros; rfl
theorem ev240 : ∀ a e, ilst a e = (a e).bindA fun x c => ilS c x := by intros; rfl
theorem ev241 : ∀ ds, ilS .cold (.lst ds) = .ok ds false := by intros; rfl
theorem ev242 : ∀ ds, ilS .fresh (.lst ds) = .ok ds false := by intros; rfl
theorem ev243 : ∀ ds, ilS .cold (.frz ds) = .ok (ds.map D.int) false := by intros; rfl
theorem ev244 : ∀ a e, itup a e = (a e).bindA fun x c => itS c x := by intros; rfl
theorem ev245 : ∀ ds, itS .cold (.tup ds) = .ok ds false := by intros; rfl
theorem ev246 : ∀ a e, irng1 a e = (a e).bindA fun x _ => irS1 x := by intros; rfl
theorem ev247 : ∀ h, irS1 (.int h) = if -lim ≤ h ∧ h < lim then .ok ((rng 0 h).map D.int) false else .bad := by intros; rfl
theorem ev248 : ∀ a b e, irng2 a b e = (a e).bindA fun x _ => (b e).bindA fun y _ => irS x y := by intros; rfl
theorem ev249 : ∀ l h, irS (.int l) (.int h) = if (-lim ≤ l ∧ l < lim) ∧ -lim ≤ h ∧ h < lim then .ok ((rng l h).map D.int) false else .bad := by intros; rfl
theorem ev250 : ∀ e, setMany [] [] e = some e := by intros; rfl
theorem ev251 : ∀ i is d ds e, setMany (i :: is) (d :: ds) e = setMany is ds (e.set i (.cold d)) := by intros; rfl
theorem ev252 : ∀ i d e, Pat.put (.nm i) d e = some (e.set i (.cold d)) := by intros; rfl
theorem ev253 : ∀ is ds e, Pat.put (.tp is) (.tup ds) e = setMany is ds e := by intros; rfl
theorem ev254 : ∀ e, snop e = .nx e := by intros; rfl
theorem ev255 : ∀ e, sbad e = .bad := by intros; rfl
theorem ev256 : ∀ a b e, seq a b e = (a e).bind b := by intros; rfl
theorem ev257 : ∀ i a e, sset i a e = (a e).bindS e fun d c => ssS i e d (dirty c d) := by intros; rfl
theorem ev258 : ∀ i e d, ssS i e d false = .nx (e.set i (.cold d)) := by intros; rfl
theorem ev259 : ∀ i a e, shot i a e = (a e).bindS e fun d c => shS i e c d := by intros; rfl
theorem ev260 : ∀ i e ds, shS i e .fresh (.lst ds) = .nx (e.set i (.hot ds)) := by intros; rfl
theorem ev261 : ∀ i e k ds, shS i e .fresh (.obj k ds) = .nx (e.set i (.hob k ds)) := by intros; rfl
theorem ev262 : ∀ i e, sfreeze i e = sfS i e e[i]? := by intros; rfl
theorem ev263 : ∀ i e ds, sfS i e (some (.hot ds)) = .nx (e.set i (.cold (.lst ds))) := by intros; rfl
theorem ev264 : ∀ is a e, sunp is a e = (a e).bindS e fun d c => suS is e d (dirty c d) := by intros; rfl
theorem ev265 : ∀ is e ds, suS is e (.tup ds) false = suT (setMany is ds e) := by intros; rfl
theorem ev266 : ∀ e, suT (some e) = .nx e := by intros; rfl
theorem ev267 : ∀ i j a b e, spar i j a b e = (a e).bindS e fun x c => (b e).bindS e fun y c' => if dirty c x || dirty c' y then .bad else .nx ((e.set i (.cold x)).set j (.cold y)) := by intros; rfl
theorem ev268 : ∀ i f a e, saug i f a e = saS i f (a e) e e[i]? := by intros; rfl
theorem ev269 : ∀ i f r e x, saS i f r e (some (.cold x)) = r.bindS e fun y _ => saT i e (f x y) := by intros; rfl
theorem ev270 : ∀ i e z, saT i e (some z) = .nx (e.set i (.cold z)) := by intros; rfl
theorem ev271 : ∀ a e, sexpr a e = (a e).bindS e fun _ _ => .nx e := by intros; rfl
theorem ev272 : ∀ i a e, sapp i a e = spS i (a e) e e[i]? := by intros; rfl
theorem ev273 : ∀ i r e ds, spS i r e (some (.hot ds)) = r.bindS e fun d c => if dirty c d then .bad else if ds.length < most then .nx (e.set i (.hot (ds ++ [d]))) else .bad := by intros; rfl
theorem ev274 : ∀ i a e, sext i a e = sxS i (a e) e e[i]? := by intros; rfl
theorem ev275 : ∀ i r e ds, sxS i r e (some (.hot ds)) = r.bindS e fun d c => sxT i e ds c d := by intros; rfl
theorem ev276 : ∀ i e ds ys, sxT i e ds .fresh (.lst ys) = if ds.length + ys.length ≤ most then .nx (e.set i (.hot (ds ++ ys))) else .bad := by intros; rfl
theorem ev277 : ∀ i k a e, sput i k a e = stS i (k e) (a e) e e[i]? := by intros; rfl
theorem ev278 : ∀ i k r e ds, stS i k r e (some (.hot ds)) = r.bindS e fun d c => if dirty c d then .bad else k.bindS e fun y _ => stT i e ds d y := by intros; rfl
theorem ev279 : ∀ i e ds d z, stT i e ds d (.int z) = stU i e ds d (ixN ds.length z) := by intros; rfl
theorem ev280 : ∀ i e ds d j, stU i e ds d (some j) = .nx (e.set i (.hot (ds.set j d))) := by intros; rfl
theorem ev281 : ∀ n k ds d, putK n k ds d = if k < ds.length then some (ds.set k d) else if k = ds.length then some (ds ++ [d]) else none := by intros; rfl
theorem ev282 : ∀ n i k a e, sfld n i k a e = slS n i k (a e) e e[i]? := by intros; rfl
theorem ev283 : ∀ n i k r e m ds, slS n i k r e (some (.slf m ds)) = if m = n then r.bindS e fun d c => (if dirty c d then .bad else slT n i e (putK n k ds d)) else .bad := by intros; rfl
theorem ev284 : ∀ n i k r e m ds, slS n i k r e (some (.hob m ds)) = if m = n then r.bindS e fun d c => (if dirty c d then .bad else slU n i e (putK n k ds d)) else .bad := by intros; rfl
theorem ev285 : ∀ n i e ds, slT n i e (some ds) = .nx (e.set i (.slf n ds)) := by intros; rfl
theorem ev286 : ∀ n i e ds, slU n i e (some ds) = .nx (e.set i (.hob n ds)) := by intros; rfl
theorem ev287 : ∀ k e, sraise k e = .exc k [] e := by intros; rfl
theorem ev288 : ∀ i m b h e, stryX i m b h e = trX i m h (b e) := by intro i m b h e; unfold stryX trX; cases b e with | exc k fs e1 => (cases m k with | none => rfl | some t => cases t <;> rfl) | _ => rfl
theorem ev289 : ∀ i m h e, trX i m h (.nx e) = .nx e := by intros; rfl
theorem ev290 : ∀ i m h d c e, trX i m h (.rt d c e) = .rt d c e := by intros; rfl
theorem ev291 : ∀ i m h k fs e, trX i m h (.exc k fs e) = trY i h k fs e (m k) := by intros; rfl
theorem ev292 : ∀ i h k fs e, trY i h k fs e (some true) = sufC i (h ((offE e).set i (.exn k fs))) := by intros; rfl
theorem ev293 : ∀ i h k fs e, trY i h k fs e (some false) = .exc k fs e := by intros; rfl
theorem ev294 : ∀ i e, sufC i (.nx e) = .nx ((offE e).set i .no) := by intros; rfl
theorem ev295 : ∀ i d c e, sufC i (.rt d c e) = .rt d c ((offE e).set i .no) := by intros; rfl
theorem ev296 : offE [] = [] := by intros; rfl
theorem ev297 : ∀ s e, offE (s :: e) = off1 s :: offE e := by intros; rfl
theorem ev298 : off1 .no = .no := by intros; rfl
theorem ev299 : ∀ d, off1 (.cold d) = .cold d := by intros; rfl
theorem ev300 : ∀ d, off1 (.hot d) = .hot d := by intros; rfl
theorem ev301 : ∀ c d, off1 (.hob c d) = .hob c d := by intros; rfl
theorem ev302 : ∀ c d, off1 (.slf c d) = .slf c d := by intros; rfl
theorem ev303 : ∀ d, off1 (.bor d) = .bor d := by intros; rfl
theorem ev304 : ∀ c d, off1 (.exn c d) = .no := by intros; rfl
theorem ev305 : ∀ n i r e, exis n i r e = exR n r e[i]? := by intros; rfl
theorem ev306 : ∀ n r k, exR n r (some (.exn k [])) = if k = n then .ok (.bl r) .cold else .bad := by intros; rfl
theorem ev307 : ∀ n i j e, exf n i j e = exF n j e[i]? := by intro n i j e; unfold exf exF; cases e[i]? with | none => rfl | some s => cases s <;> first | rfl | (rename_i k fs; cases fs[j]? <;> rfl)
theorem ev308 : ∀ n j k fs, exF n j (some (.exn k fs)) = if k = n then (fldX .cold fs[j]?) else .bad := by intros; rfl
theorem ev309 : ∀ b e, stryN b e = tryR (b e) := by intros; rfl
theorem ev310 : ∀ e, tryR (.nx e) = .nx e := by intros; rfl
theorem ev311 : ∀ d c e, tryR (.rt d c e) = .rt d c e := by intros; rfl
theorem ev312 : ∀ t a b e, sif t a b e = (t e).bindS e fun k => if k then a e else b e := by intros; rfl
theorem ev313 : ∀ a e, sret a e = (a e).bindS e fun d c => .rt d c e := by intros; rfl
theorem ev314 : ∀ e, sretN e = .rt .non .cold e := by intros; rfl
theorem ev315 : ∀ e, sbrk e = .bk e := by intros; rfl
theorem ev316 : ∀ e, scnt e = .ct e := by intros; rfl
theorem ev317 : ∀ it p b e, sfor it p b e = foS p b (it e) e := by intros; rfl
theorem ev318 : ∀ p b ds t e, foS p b (.ok ds t) e = forL p b ds e := by intros; rfl
theorem ev319 : ∀ n t b, swhile n t b = whileN t b n := by intros; rfl
theorem ev320 : ∀ n ds, enter n ds = ds.map S.cold ++ List.replicate (n - ds.length) S.no := by intros; rfl
theorem ev321 : ∀ n ds, enterB n ds = ds.map S.bor ++ List.replicate (n - ds.length) S.no := by intros; rfl
theorem ev322 : outC .hot = .fresh := by intros; rfl
theorem ev323 : outC .fresh = .fresh := by intros; rfl
theorem ev324 : outC .cold = .cold := by intros; rfl
theorem ev325 : outC .taint = .cold := by intros; rfl
theorem ev326 : ∀ e, leave (.nx e) = .ok .non .cold := by intros; rfl
theorem ev327 : ∀ d c e, leave (.rt d c e) = .ok d (outC c) := by intros; rfl
theorem ev328 : ∀ k fs e, leave (.exc k fs e) = .exc k fs := by intros; rfl
theorem ev329 : ∀ c k fs e, leaveI c (.nx (.slf k fs :: e)) = if k = c then .ok (.obj c fs) .fresh else .bad := by intros; rfl
theorem ev330 : ∀ c k fs e, leaveI c (.exc k fs e) = .exc k fs := by intros; rfl
theorem ev331 : D.scalar .non = true := by intros; rfl
theorem ev332 : ∀ i, D.scalar (.int i) = true := by intros; rfl
theorem ev333 : ∀ i, D.scalar (.bl i) = true := by intros; rfl
theorem ev334 : ∀ i, D.scalar (.str i) = true := by intros; rfl
theorem ev335 : ∀ i, D.scalar (.tup i) = false := by intros; rfl
theorem ev336 : ∀ i, D.scalar (.lst i) = false := by intros; rfl
theorem ev337 : ∀ c i, D.scalar (.obj c i) = false := by intros; rfl
theorem ev338 : ∀ i, D.scalar (.frz i) = false := by intros; rfl
theorem ev339 : most = 1000000 := by intros; rfl
theorem ev340 : big = 340282366920938463463374607431768211456 := by intros; rfl
theorem ev341 : lim = 4611686018427387904 := by intros; rfl
theorem ev342 : ∀ (P : Ctl → Prop) e, Wp (.nx e) P = P (.nx e) := by intros; rfl
theorem ev343 : ∀ (P : Ctl → Prop) e, Wp (.bk e) P = P (.bk e) := by intros; rfl
theorem ev344 : ∀ (P : Ctl → Prop) e, Wp (.ct e) P = P (.ct e) := by intros; rfl
theorem ev345 : ∀ (P : Ctl → Prop) d c e, Wp (.rt d c e) P = P (.rt d c e) := by intros; rfl
theorem ev346 : ∀ (P : Ctl → Prop) k fs e, Wp (.exc k fs e) P = P (.exc k fs e) := by intros; rfl
theorem ev347 : ∀ (P : Ctl → Prop), Wp .bad P = P .bad := by intros; rfl
theorem ev348 : ∀ I P e, Nx I P (.nx e) = I e := by intros; rfl
theorem ev349 : ∀ I P e, Nx I P (.ct e) = I e := by intros; rfl
theorem ev350 : ∀ I P e, Nx I P (.bk e) = P (.nx e) := by intros; rfl
theorem ev351 : ∀ I P d c e, Nx I P (.rt d c e) = P (.rt d c e) := by intros; rfl
theorem ev352 : ∀ I P k fs e, Nx I P (.exc k fs e) = P (.exc k fs e) := by intros; rfl
theorem ev353 : ∀ I P, Nx I P .bad = P .bad := by intros; rfl
theorem evs : (∀ d c f, R.bind (.ok d c) f = f d c) ∧
  (∀ k fs f, R.bind (.exc k fs) f = .exc k fs) ∧
  (∀ f, R.bind .bad f = .bad) ∧
  (∀ d c f, R.bindA (.ok d c) f = f d c) ∧
  (∀ k fs f, R.bindA (.exc k fs) f = .exc k fs) ∧
  (∀ f, R.bindA .bad f = .bad) ∧
  (∀ d c f, R.bindB (.ok d c) f = f d c) ∧
  (∀ k fs f, R.bindB (.exc k fs) f = .exc k fs) ∧
  (∀ f, R.bindB .bad f = .bad) ∧
  (∀ d c f, RA.bind (.ok d c) f = f d c) ∧
  (∀ k fs f, RA.bind (.exc k fs) f = .exc k fs) ∧
  (∀ f, RA.bind .bad f = .bad) ∧
  (∀ b f, RB.bind (.ok b) f = f b) ∧
  (∀ k fs f, RB.bind (.exc k fs) f = .exc k fs) ∧
  (∀ f, RB.bind .bad f = .bad) ∧
  (∀ b f, RB.bindB (.ok b) f = f b) ∧
  (∀ k fs f, RB.bindB (.exc k fs) f = .exc k fs) ∧
  (∀ f, RB.bindB .bad f = .bad) ∧
  (∀ e d c f, R.bindS (.ok d c) e f = f d c) ∧
  (∀ e k fs f, R.bindS (.exc k fs) e f = .exc k fs e) ∧
  (∀ e f, R.bindS .bad e f = .bad) ∧
  (∀ e b f, RB.bindS (.ok b) e f = f b) ∧
  (∀ e k fs f, RB.bindS (.exc k fs) e f = .exc k fs e) ∧
  (∀ e f, RB.bindS .bad e f = .bad) ∧
  (∀ e f, Ctl.bind (.nx e) f = f e) ∧
  (∀ d c e f, Ctl.bind (.rt d c e) f = .rt d c e) ∧
  (∀ e f, Ctl.bind (.bk e) f = .bk e) ∧
  (∀ e f, Ctl.bind (.ct e) f = .ct e) ∧
  (∀ k fs e f, Ctl.bind (.exc k fs e) f = .exc k fs e) ∧
  (∀ f, Ctl.bind .bad f = .bad) ∧
  (∀ d, ofO (some d) = .ok d .cold) ∧
  (ofO none = .bad) ∧
  (∀ i e, var i e = varS (e[i]?)) ∧
  (∀ d, varS (some (.cold d)) = .ok d .cold) ∧
  (∀ ds, varS (some (.hot ds)) = .ok (.lst ds) .hot) ∧
  (∀ c ds, varS (some (.hob c ds)) = .ok (.obj c ds) .hot) ∧
  (∀ c ds, varS (some (.slf c ds)) = .ok (.obj c ds) .hot) ∧
  (∀ d, varS (some (.bor d)) = .ok d .taint) ∧
  (∀ d e, con d e = .ok d .cold) ∧
  (∀ f a e, op1 f a e = (a e).bind fun x _ => ofO (f x)) ∧
  (∀ f a b e, op2 f a b e = (a e).bind fun x _ => (b e).bind fun y _ => ofO (f x y)) ∧
  (∀ f g a b c e, chain f g a b c e = (a e).bind fun x _ => (b e).bind fun y _ => chS (f x y) ((c e).bind fun z _ => ofO (g y z))) ∧
  (∀ r, chS (some (.bl true)) r = r) ∧
  (∀ r, chS (some (.bl false)) r = .ok (.bl false) .cold) ∧
  (∀ b r, chS (some (.bl b)) r = if b = true then r else .ok (.bl false) .cold) ∧
  (∀ a e, tst a e = (a e).bindB fun d _ => tstS d) ∧
  (∀ b, tstS (.bl b) = .ok b) ∧
  (∀ a b e, tand a b e = (a e).bindB fun k => if k then b e else .ok false) ∧
  (∀ a b e, tor a b e = (a e).bindB fun k => if k then .ok true else b e) ∧
  (∀ a e, tnot a e = (a e).bindB fun k => .ok (!k)) ∧
  (∀ e, tyes e = .ok true) ∧
  (∀ a b e, vand a b e = (a e).bind fun d _ => chS (some d) (b e)) ∧
  (∀ a b e, vor a b e = (a e).bind fun d _ => orS (some d) (b e)) ∧
  (∀ r, orS (some (.bl true)) r = .ok (.bl true) .cold) ∧
  (∀ r, orS (some (.bl false)) r = r) ∧
  (∀ b r, orS (some (.bl b)) r = if b = true then .ok (.bl true) .cold else r) ∧
  (∀ a e, vnot a e = (a e).bind fun d _ => (tstS d).bind fun b => .ok (.bl (!b)) .cold) ∧
  (∀ t a b e, cond t a b e = (t e).bind fun k => if k then a e else b e) ∧
  (∀ d, dirty .cold d = false) ∧
  (∀ d, dirty .fresh d = false) ∧
  (∀ d, dirty .hot d = true) ∧
  (∀ d, dirty .taint d = !d.scalar) ∧
  (∀ e, anil e = .ok [] false) ∧
  (∀ a r e, acons a r e = (a e).bindA fun d c => acS d c (r e)) ∧
  (∀ d c ds t, acS d c (.ok ds t) = .ok (d :: ds) (dirty c d || t)) ∧
  (∀ d c k fs, acS d c (.exc k fs) = .exc k fs) ∧
  (∀ d c, acS d c .bad = .bad) ∧
  (∀ a e, tupx a e = (a e).bind fun ds t => if ds.length ≤ most then .ok (.tup ds) (if t then .taint else .cold) else .bad) ∧
  (∀ a e, lstx a e = (a e).bind fun ds t => if ds.length ≤ most then .ok (.lst ds) (if t then .taint else .fresh) else .bad) ∧
  (∀ d, part .cold d = .cold) ∧
  (∀ d, part .fresh d = .cold) ∧
  (∀ d, part .hot d = .cold) ∧
  (∀ d, part .taint d = if d.scalar then .cold else .taint) ∧
  (∀ d, post false d .fresh = .fresh) ∧
  (∀ d, post false d .cold = .cold) ∧
  (∀ d, post false d .hot = .cold) ∧
  (∀ d, post false d .taint = .cold) ∧
  (∀ d, post true d .fresh = if d.flat then .fresh else .taint) ∧
  (∀ d, post true d .cold = if d.scalar then .cold else .taint) ∧
  (∀ d, post true d .hot = if d.scalar then .cold else .taint) ∧
  (∀ d, post true d .taint = if d.scalar then .cold else .taint) ∧
  (∀ t d c, ended t (.ok d c) = .ok d (post t d c)) ∧
  (∀ k fs, ended false (.exc k fs) = .exc k fs) ∧
  (∀ k fs, ended true (.exc k fs) = if !fs.all D.scalar then .bad else .exc k fs) ∧
  (∀ t, ended t .bad = .bad) ∧
  (∀ n g a e, call n g a e = (a e).bind fun ds t => if ds.length = n then ended t (g ds) else .bad) ∧
  (∀ t d c, made t false (.ok d c) = .ok d .fresh) ∧
  (∀ t d c, made t true (.ok d c) = .ok d .taint) ∧
  (∀ tk k fs, made false tk (.exc k fs) = .exc k fs) ∧
  (∀ tk k fs, made true tk (.exc k fs) = if !fs.all D.scalar then .bad else .exc k fs) ∧
  (∀ t tk, made t tk .bad = .bad) ∧
  (∀ n g a e, mk n g a e = (a e).bind fun ds t => if ds.length = n then made t t (g ds) else .bad) ∧
  (∀ n g a e, mkN n g a e = (a e).bind fun ds t => if ds.length = n then made t false (g ds) else .bad) ∧
  (∀ a b e, orx a b e = orR (a e) (b e)) ∧
  (∀ d c r, orR (.ok d c) r = .ok d c) ∧
  (∀ k fs r, orR (.exc k fs) r = .exc k fs) ∧
  (∀ r, orR .bad r = r) ∧
  (∀ n m g o a e, meth n m g o a e = (o e).bind fun d c => methS n m g d c (a e)) ∧
  (∀ n m g k fs c r, methS n m g (.obj k fs) c r = if k = n then r.bind fun ds t => (if ds.length = m then ended (dirty c (.obj k fs) || t) (g (.obj k fs :: ds)) else .bad) else .bad) ∧
  (∀ n k o e, fld n k o e = (o e).bind fun d c => fldS n k d c) ∧
  (∀ n k m fs c, fldS n k (.obj m fs) c = if m = n then (fldX c fs[k]?) else .bad) ∧
  (∀ c x, fldX c (some x) = .ok x (part c x)) ∧
  (∀ xs i, item (.lst xs) (.int i) = atI xs i) ∧
  (∀ (a : D) xs, atI (a :: xs) 0 = some a) ∧
  (∀ (a b : D) xs, atI (a :: b :: xs) 1 = some b) ∧
  (∀ (a b c : D) xs, atI (a :: b :: c :: xs) 2 = some c) ∧
  (∀ (a b c d : D) xs, atI (a :: b :: c :: d :: xs) 3 = some d) ∧
  (∀ (a b c d e : D) xs, atI (a :: b :: c :: d :: e :: xs) 4 = some e) ∧
  (∀ (a b c d e f : D) xs, atI (a :: b :: c :: d :: e :: f :: xs) 5 = some f) ∧
  (∀ (a b c d e f g : D) xs, atI (a :: b :: c :: d :: e :: f :: g :: xs) 6 = some g) ∧
  (∀ (a b c d e f g h : D) xs, atI (a :: b :: c :: d :: e :: f :: g :: h :: xs) 7 = some h) ∧
  (∀ (xs : List D) x, atI (xs ++ [x]) (-1) = some x) ∧
  (∀ xs i, item (.tup xs) (.int i) = atI xs i) ∧
  (∀ xs i, item (.frz xs) (.int i) = (atI xs i).map D.int) ∧
  (∀ a b e, idx a b e = (a e).bind fun x c => (b e).bind fun y _ => fldX c (item x y)) ∧
  (∀ e, onone e = some none) ∧
  (∀ a e, osome a e = osR (a e)) ∧
  (∀ i c, osR (.ok (.int i) c) = some (some i)) ∧
  (∀ ds, again .cold ds = .fresh) ∧
  (∀ ds, again .fresh ds = .fresh) ∧
  (∀ ds, again .hot ds = .fresh) ∧
  (∀ ds, again .taint ds = if ds.all D.scalar then .fresh else .taint) ∧
  (∀ a lo hi e, slice a lo hi e = (a e).bind fun x c => scS c x (lo e) (hi e)) ∧
  (∀ c xs l h, scS c (.lst xs) (some l) (some h) = .ok (.lst (cut xs l h)) (again c (cut xs l h))) ∧
  (∀ c ns l h, scS c (.frz ns) (some l) (some h) = .ok (.lst ((cut ns l h).map D.int)) .fresh) ∧
  (∀ c xs l h, scS c (.tup xs) (some l) (some h) = if sIx xs.length 0 l = 0 ∧ sIx xs.length xs.length h = xs.length then .bad else .ok (.tup (cut xs l h)) (part c (.tup (cut xs l h)))) ∧
  (∀ a b e, catx a b e = (a e).bind fun x c => (b e).bind fun y c' => ctS x c y c') ∧
  (∀ xs c ys c', ctS (.lst xs) c (.lst ys) c' = if xs.length + ys.length ≤ most then .ok (.lst (xs ++ ys)) (ag2 (again c xs) (again c' ys)) else .bad) ∧
  (ag2 .fresh .fresh = .fresh) ∧
  (ag2 .taint .fresh = .taint) ∧
  (ag2 .fresh .taint = .taint) ∧
  (ag2 .taint .taint = .taint) ∧
  (∀ a b e, repx a b e = (a e).bind fun x c => (b e).bind fun y _ => rpS x c y) ∧
  (∀ xs c k, rpS (.lst xs) c (.int k) = if k ≤ 1000000 ∧ -1000000 ≤ k ∧ xs.length * k.toNat ≤ most then .ok (.lst (repD xs k)) (again c xs) else .bad) ∧
  (∀ a e, tupOf a e = (a e).bind fun x c => toS c x) ∧
  (∀ c ds, toS c (.lst ds) = .ok (.tup ds) (part c (.tup ds))) ∧
  (∀ c ds, toS c (.tup ds) = .ok (.tup ds) (part c (.tup ds))) ∧
  (∀ lo hi e, listRng lo hi e = (lo e).bind fun x _ => (hi e).bind fun y _ => lrS x y) ∧
  (∀ a b, lrS (.int a) (.int b) = if (-4000000000 < a ∧ a < 4000000000) ∧ (-4000000000 < b ∧ b < 4000000000) ∧ b - a ≤ 1000000 then .ok (.lst ((rng a b).map D.int)) .fresh else .bad) ∧
  (∀ a e, sortedI a e = (a e).bind fun x _ => soS x) ∧
  (∀ ds, soS (.lst ds) = soT (intsD ds)) ∧
  (∀ ns, soT (some ns) = .ok (.lst ((sortI ns).map D.int)) .fresh) ∧
  (∀ own it p t x e, lc own it p t x e = lcR (it e) fun ds => lcLoop p t x (wipeE e own) ds []) ∧
  (∀ ds t f, lcR (.ok ds t) f = lcT (f ds)) ∧
  (∀ ys, lcT (some ys) = .ok (.lst ys) .fresh) ∧
  (∀ e, wipeE e [] = e) ∧
  (∀ e v vs, wipeE e (v :: vs) = (wipeE e vs).set v .no) ∧
  (∀ x ds, opIn x (.lst ds) = (memP x ds).map D.bl) ∧
  (∀ x ds, opIn x (.tup ds) = (memP x ds).map D.bl) ∧
  (∀ x ds, opNotIn x (.lst ds) = (memP x ds).map fun b => D.bl (!b)) ∧
  (∀ x ds, opNotIn x (.tup ds) = (memP x ds).map fun b => D.bl (!b)) ∧
  (∀ ds, fSum (.lst ds) = (intsD ds).map fun ns => D.int ns.sum) ∧
  (∀ ns, intsD (ns.map D.int) = some ns) ∧
  (∀ ns, bools (ns.map D.bl) = some ns) ∧
  (∀ ds, fAny (.lst ds) = (bools ds).map fun bs => D.bl (bs.any id)) ∧
  (∀ ds, fAll (.lst ds) = (bools ds).map fun bs => D.bl (bs.all id)) ∧
  (∀ xs, items (.lst xs) = some xs) ∧
  (∀ xs, items (.tup xs) = some xs) ∧
  (∀ xs, items (.frz xs) = some (xs.map D.int)) ∧
  (∀ a e, listOf a e = (a e).bind fun x c => liS c (items x)) ∧
  (∀ c ds, liS c (some ds) = .ok (.lst ds) (again c ds)) ∧
  (∀ i j, opAdd (.int i) (.int j) = some (.int (i + j))) ∧
  (∀ i j, opSub (.int i) (.int j) = some (.int (i - j))) ∧
  (∀ i j, opMul (.int i) (.int j) = if (-big < i ∧ i < big) ∧ -big < j ∧ j < big then some (.int (i * j)) else none) ∧
  (∀ i j, opDiv (.int i) (.int j) = if 0 < j ∧ j < big then some (.int (i / j)) else none) ∧
  (∀ i j, opMod (.int i) (.int j) = if 0 < j then some (.int (i % j)) else none) ∧
  (∀ i j, opPow (.int i) (.int j) = if 0 ≤ j ∧ j ≤ 1000 ∧ -1000 < i ∧ i < 1000 then some (.int (i ^ j.toNat)) else none) ∧
  (∀ i, opNeg (.int i) = some (.int (-i))) ∧
  (∀ i j, opLt (.int i) (.int j) = some (.bl (decide (i < j)))) ∧
  (∀ i j, opLe (.int i) (.int j) = some (.bl (decide (i ≤ j)))) ∧
  (∀ i j, opGt (.int i) (.int j) = some (.bl (decide (j < i)))) ∧
  (∀ i j, opGe (.int i) (.int j) = some (.bl (decide (j ≤ i)))) ∧
  (∀ x y, opEq x y = (eqS x y).map D.bl) ∧
  (∀ x y, opNe x y = (eqS x y).map fun b => D.bl (!b)) ∧
  (eqS .non .non = some true) ∧
  (∀ i j, eqS (.int i) (.int j) = some (decide (i = j))) ∧
  (∀ i j, eqS (.bl i) (.bl j) = some (decide (i = j))) ∧
  (∀ i j, eqS (.str i) (.str j) = some (decide (i = j))) ∧
  (∀ i, eqS .non (.int i) = some false) ∧
  (∀ i, eqS (.int i) .non = some false) ∧
  (∀ xs, fLen (.lst xs) = some (.int xs.length)) ∧
  (∀ xs, fLen (.tup xs) = some (.int xs.length)) ∧
  (∀ xs, fLen (.frz xs) = some (.int xs.length)) ∧
  (∀ i, fAbs (.int i) = some (.int (absI i))) ∧
  (∀ i j, fMax2 (.int i) (.int j) = some (.int (if j > i then j else i))) ∧
  (∀ i j, fMin2 (.int i) (.int j) = some (.int (if j < i then j else i))) ∧
  (opIsN .non = some (.bl true)) ∧
  (∀ i, opIsN (.int i) = some (.bl false)) ∧
  (∀ i, opIsN (.bl i) = some (.bl false)) ∧
  (∀ i, opIsN (.str i) = some (.bl false)) ∧
  (∀ i, opIsN (.tup i) = some (.bl false)) ∧
  (∀ i, opIsN (.lst i) = some (.bl false)) ∧
  (∀ c i, opIsN (.obj c i) = some (.bl false)) ∧
  (opNotN .non = some (.bl false)) ∧
  (∀ i, opNotN (.int i) = some (.bl true)) ∧
  (∀ i, opNotN (.bl i) = some (.bl true)) ∧
  (∀ i, opNotN (.str i) = some (.bl true)) ∧
  (∀ i, opNotN (.tup i) = some (.bl true)) ∧
  (∀ i, opNotN (.lst i) = some (.bl true)) ∧
  (∀ c i, opNotN (.obj c i) = some (.bl true)) ∧
  (∀ i e, sclear i e = scl i e e[i]?) ∧
  (∀ i e ds, scl i e (some (.hot ds)) = .nx (e.set i (.hot []))) ∧
  (isTup .non = some false) ∧
  (∀ i, isTup (.bl i) = some false) ∧
  (∀ i, isTup (.int i) = some false) ∧
  (∀ i, isTup (.str i) = some false) ∧
  (∀ i, isTup (.tup i) = some true) ∧
  (∀ i, isTup (.lst i) = some false) ∧
  (isLst .non = some false) ∧
  (∀ i, isLst (.bl i) = some false) ∧
  (∀ i, isLst (.int i) = some false) ∧
  (∀ i, isLst (.str i) = some false) ∧
  (∀ i, isLst (.tup i) = some false) ∧
  (∀ i, isLst (.lst i) = some true) ∧
  (isTL .non = some false) ∧
  (∀ i, isTL (.bl i) = some false) ∧
  (∀ i, isTL (.int i) = some false) ∧
  (∀ i, isTL (.str i) = some false) ∧
  (∀ i, isTL (.tup i) = some true) ∧
  (∀ i, isTL (.lst i) = some true) ∧
  (isBl .non = some false) ∧
  (∀ i, isBl (.bl i) = some true) ∧
  (∀ i, isBl (.int i) = some false) ∧
  (∀ i, isBl (.str i) = some false) ∧
  (∀ i, isBl (.tup i) = some false) ∧
  (∀ i, isBl (.lst i) = some false) ∧
  (isInt .non = some false) ∧
  (∀ i, isInt (.bl i) = some true) ∧
  (∀ i, isInt (.int i) = some true) ∧
  (∀ i, isInt (.str i) = some false) ∧
  (∀ i, isInt (.tup i) = some false) ∧
  (∀ i, isInt (.lst i) = some false) ∧
  (isStr .non = some false) ∧
  (∀ i, isStr (.bl i) = some false) ∧
  (∀ i, isStr (.int i) = some false) ∧
  (∀ i, isStr (.str i) = some true) ∧
  (∀ i, isStr (.tup i) = some false) ∧
  (∀ i, isStr (.lst i) = some false) ∧
  (∀ p a e, isi p a e = (a e).bind fun d _ => isR (p d)) ∧
  (∀ b, isR (some b) = .ok (.bl b) .cold) ∧
  (∀ a e, ilst a e = (a e).bindA fun x c => ilS c x) ∧
  (∀ ds, ilS .cold (.lst ds) = .ok ds false) ∧
  (∀ ds, ilS .fresh (.lst ds) = .ok ds false) ∧
  (∀ ds, ilS .cold (.frz ds) = .ok (ds.map D.int) false) ∧
  (∀ a e, itup a e = (a e).bindA fun x c => itS c x) ∧
  (∀ ds, itS .cold (.tup ds) = .ok ds false) ∧
  (∀ a e, irng1 a e = (a e).bindA fun x _ => irS1 x) ∧
  (∀ h, irS1 (.int h) = if -lim ≤ h ∧ h < lim then .ok ((rng 0 h).map D.int) false else .bad) ∧
  (∀ a b e, irng2 a b e = (a e).bindA fun x _ => (b e).bindA fun y _ => irS x y) ∧
  (∀ l h, irS (.int l) (.int h) = if (-lim ≤ l ∧ l < lim) ∧ -lim ≤ h ∧ h < lim then .ok ((rng l h).map D.int) false else .bad) ∧
  (∀ e, setMany [] [] e = some e) ∧
  (∀ i is d ds e, setMany (i :: is) (d :: ds) e = setMany is ds (e.set i (.cold d))) ∧
  (∀ i d e, Pat.put (.nm i) d e = some (e.set i (.cold d))) ∧
  (∀ is ds e, Pat.put (.tp is) (.tup ds) e = setMany is ds e) ∧
  (∀ e, snop e = .nx e) ∧
  (∀ e, sbad e = .bad) ∧
  (∀ a b e, seq a b e = (a e).bind b) ∧
  (∀ i a e, sset i a e = (a e).bindS e fun d c => ssS i e d (dirty c d)) ∧
  (∀ i e d, ssS i e d false = .nx (e.set i (.cold d))) ∧
  (∀ i a e, shot i a e = (a e).bindS e fun d c => shS i e c d) ∧
  (∀ i e ds, shS i e .fresh (.lst ds) = .nx (e.set i (.hot ds))) ∧
  (∀ i e k ds, shS i e .fresh (.obj k ds) = .nx (e.set i (.hob k ds))) ∧
  (∀ i e, sfreeze i e = sfS i e e[i]?) ∧
  (∀ i e ds, sfS i e (some (.hot ds)) = .nx (e.set i (.cold (.lst ds)))) ∧
  (∀ is a e, sunp is a e = (a e).bindS e fun d c => suS is e d (dirty c d)) ∧
  (∀ is e ds, suS is e (.tup ds) false = suT (setMany is ds e)) ∧
  (∀ e, suT (some e) = .nx e) ∧
  (∀ i j a b e, spar i j a b e = (a e).bindS e fun x c => (b e).bindS e fun y c' => if dirty c x || dirty c' y then .bad else .nx ((e.set i (.cold x)).set j (.cold y))) ∧
  (∀ i f a e, saug i f a e = saS i f (a e) e e[i]?) ∧
  (∀ i f r e x, saS i f r e (some (.cold x)) = r.bindS e fun y _ => saT i e (f x y)) ∧
  (∀ i e z, saT i e (some z) = .nx (e.set i (.cold z))) ∧
  (∀ a e, sexpr a e = (a e).bindS e fun _ _ => .nx e) ∧
  (∀ i a e, sapp i a e = spS i (a e) e e[i]?) ∧
  (∀ i r e ds, spS i r e (some (.hot ds)) = r.bindS e fun d c => if dirty c d then .bad else if ds.length < most then .nx (e.set i (.hot (ds ++ [d]))) else .bad) ∧
  (∀ i a e, sext i a e = sxS i (a e) e e[i]?) ∧
  (∀ i r e ds, sxS i r e (some (.hot ds)) = r.bindS e fun d c => sxT i e ds c d) ∧
  (∀ i e ds ys, sxT i e ds .fresh (.lst ys) = if ds.length + ys.length ≤ most then .nx (e.set i (.hot (ds ++ ys))) else .bad) ∧
  (∀ i k a e, sput i k a e = stS i (k e) (a e) e e[i]?) ∧
  (∀ i k r e ds, stS i k r e (some (.hot ds)) = r.bindS e fun d c => if dirty c d then .bad else k.bindS e fun y _ => stT i e ds d y) ∧
  (∀ i e ds d z, stT i e ds d (.int z) = stU i e ds d (ixN ds.length z)) ∧
  (∀ i e ds d j, stU i e ds d (some j) = .nx (e.set i (.hot (ds.set j d)))) ∧
  (∀ n k ds d, putK n k ds d = if k < ds.length then some (ds.set k d) else if k = ds.length then some (ds ++ [d]) else none) ∧
  (∀ n i k a e, sfld n i k a e = slS n i k (a e) e e[i]?) ∧
  (∀ n i k r e m ds, slS n i k r e (some (.slf m ds)) = if m = n then r.bindS e fun d c => (if dirty c d then .bad else slT n i e (putK n k ds d)) else .bad) ∧
  (∀ n i k r e m ds, slS n i k r e (some (.hob m ds)) = if m = n then r.bindS e fun d c => (if dirty c d then .bad else slU n i e (putK n k ds d)) else .bad) ∧
  (∀ n i e ds, slT n i e (some ds) = .nx (e.set i (.slf n ds))) ∧
  (∀ n i e ds, slU n i e (some ds) = .nx (e.set i (.hob n ds))) ∧
  (∀ k e, sraise k e = .exc k [] e) ∧
  (∀ i m b h e, stryX i m b h e = trX i m h (b e)) ∧
  (∀ i m h e, trX i m h (.nx e) = .nx e) ∧
  (∀ i m h d c e, trX i m h (.rt d c e) = .rt d c e) ∧
  (∀ i m h k fs e, trX i m h (.exc k fs e) = trY i h k fs e (m k)) ∧
  (∀ i h k fs e, trY i h k fs e (some true) = sufC i (h ((offE e).set i (.exn k fs)))) ∧
  (∀ i h k fs e, trY i h k fs e (some false) = .exc k fs e) ∧
  (∀ i e, sufC i (.nx e) = .nx ((offE e).set i .no)) ∧
  (∀ i d c e, sufC i (.rt d c e) = .rt d c ((offE e).set i .no)) ∧
  (offE [] = []) ∧
  (∀ s e, offE (s :: e) = off1 s :: offE e) ∧
  (off1 .no = .no) ∧
  (∀ d, off1 (.cold d) = .cold d) ∧
  (∀ d, off1 (.hot d) = .hot d) ∧
  (∀ c d, off1 (.hob c d) = .hob c d) ∧
  (∀ c d, off1 (.slf c d) = .slf c d) ∧
  (∀ d, off1 (.bor d) = .bor d) ∧
  (∀ c d, off1 (.exn c d) = .no) ∧
  (∀ n i r e, exis n i r e = exR n r e[i]?) ∧
  (∀ n r k, exR n r (some (.exn k [])) = if k = n then .ok (.bl r) .cold else .bad) ∧
  (∀ n i j e, exf n i j e = exF n j e[i]?) ∧
  (∀ n j k fs, exF n j (some (.exn k fs)) = if k = n then (fldX .cold fs[j]?) else .bad) ∧
  (∀ b e, stryN b e = tryR (b e)) ∧
  (∀ e, tryR (.nx e) = .nx e) ∧
  (∀ d c e, tryR (.rt d c e) = .rt d c e) ∧
  (∀ t a b e, sif t a b e = (t e).bindS e fun k => if k then a e else b e) ∧
  (∀ a e, sret a e = (a e).bindS e fun d c => .rt d c e) ∧
  (∀ e, sretN e = .rt .non .cold e) ∧
  (∀ e, sbrk e = .bk e) ∧
  (∀ e, scnt e = .ct e) ∧
  (∀ it p b e, sfor it p b e = foS p b (it e) e) ∧
  (∀ p b ds t e, foS p b (.ok ds t) e = forL p b ds e) ∧
  (∀ n t b, swhile n t b = whileN t b n) ∧
  (∀ n ds, enter n ds = ds.map S.cold ++ List.replicate (n - ds.length) S.no) ∧
  (∀ n ds, enterB n ds = ds.map S.bor ++ List.replicate (n - ds.length) S.no) ∧
  (outC .hot = .fresh) ∧
  (outC .fresh = .fresh) ∧
  (outC .cold = .cold) ∧
  (outC .taint = .cold) ∧
  (∀ e, leave (.nx e) = .ok .non .cold) ∧
  (∀ d c e, leave (.rt d c e) = .ok d (outC c)) ∧
  (∀ k fs e, leave (.exc k fs e) = .exc k fs) ∧
  (∀ c k fs e, leaveI c (.nx (.slf k fs :: e)) = if k = c then .ok (.obj c fs) .fresh else .bad) ∧
  (∀ c k fs e, leaveI c (.exc k fs e) = .exc k fs) ∧
  (D.scalar .non = true) ∧
  (∀ i, D.scalar (.int i) = true) ∧
  (∀ i, D.scalar (.bl i) = true) ∧
  (∀ i, D.scalar (.str i) = true) ∧
  (∀ i, D.scalar (.tup i) = false) ∧
  (∀ i, D.scalar (.lst i) = false) ∧
  (∀ c i, D.scalar (.obj c i) = false) ∧
  (∀ i, D.scalar (.frz i) = false) ∧
  (most = 1000000) ∧
  (big = 340282366920938463463374607431768211456) ∧
  (lim = 4611686018427387904) ∧
  (∀ (P : Ctl → Prop) e, Wp (.nx e) P = P (.nx e)) ∧
  (∀ (P : Ctl → Prop) e, Wp (.bk e) P = P (.bk e)) ∧
  (∀ (P : Ctl → Prop) e, Wp (.ct e) P = P (.ct e)) ∧
  (∀ (P : Ctl → Prop) d c e, Wp (.rt d c e) P = P (.rt d c e)) ∧
  (∀ (P : Ctl → Prop) k fs e, Wp (.exc k fs e) P = P (.exc k fs e)) ∧
  (∀ (P : Ctl → Prop), Wp .bad P = P .bad) ∧
  (∀ I P e, Nx I P (.nx e) = I e) ∧
  (∀ I P e, Nx I P (.ct e) = I e) ∧
  (∀ I P e, Nx I P (.bk e) = P (.nx e)) ∧
  (∀ I P d c e, Nx I P (.rt d c e) = P (.rt d c e)) ∧
  (∀ I P k fs e, Nx I P (.exc k fs e) = P (.exc k fs e)) ∧
  (∀ I P, Nx I P .bad = P .bad) :=
  ⟨ev0, ev1, ev2, ev3, ev4, ev5, ev6, ev7, ev8, ev9, ev10, ev11, ev12, ev13, ev14, ev15, ev16, ev17, ev18, ev19, ev20, ev21, ev22, ev23, ev24, ev25, ev26, ev27, ev28, ev29, ev30, ev31, ev32, ev33, ev34, ev35, ev36, ev37, ev38, ev39, ev40, ev41, ev42, ev43, ev44, ev45, ev46, ev47, ev48, ev49, ev50, ev51, ev52, ev53, ev54, ev55, ev56, ev57, ev58, ev59, ev60, ev61, ev62, ev63, ev64, ev65, ev66, ev67, ev68, ev69, ev70, ev71, ev72, ev73, ev74, ev75, ev76, ev77, ev78, ev79, ev80, ev81, ev82, ev83, ev84, ev85, ev86, ev87, ev88, ev89, ev90, ev91, ev92, ev93, ev94, ev95, ev96, ev97, ev98, ev99, ev100, ev101, ev102, ev103, ev104, ev105, ev106, ev107, ev108, ev109, ev110, ev111, ev112, ev113, ev114, ev115, ev116, ev117, ev118, ev119, ev120, ev121, ev122, ev123, ev124, ev125, ev126, ev127, ev128, ev129, ev130, ev131, ev132, ev133, ev134, ev135, ev136, ev137, ev138, ev139, ev140, ev141, ev142, ev143, ev144, ev145, ev146, ev147, ev148, ev149, ev150, ev151, ev152, ev153, ev154, ev155, ev156, ev157, ev158, ev159, ev160, ev161, ev162, ev163, ev164, ev165, ev166, ev167, ev168, ev169, ev170, ev171, ev172, ev173, ev174, ev175, ev176, ev177, ev178, ev179, ev180, ev181, ev182, ev183, ev184, ev185, ev186, ev187, ev188, ev189, ev190, ev191, ev192, ev193, ev194, ev195, ev196, ev197, ev198, ev199, ev200, ev201, ev202, ev203, ev204, ev205, ev206, ev207, ev208, ev209, ev210, ev211, ev212, ev213, ev214, ev215, ev216, ev217, ev218, ev219, ev220, ev221, ev222, ev223, ev224, ev225, ev226, ev227, ev228, ev229, ev230, ev231, ev232, ev233, ev234, ev235, ev236, ev237, ev238, ev239, ev240, ev241, ev242, ev243, ev244, ev245, ev246, ev247, ev248, ev249, ev250, ev251, ev252, ev253, ev254, ev255, ev256, ev257, ev258, ev259, ev260, ev261, ev262, ev263, ev264, ev265, ev266, ev267, ev268, ev269, ev270, ev271, ev272, ev273, ev274, ev275, ev276, ev277, ev278, ev279, ev280, ev281, ev282, ev283, ev284, ev285, ev286, ev287, ev288, ev289, ev290, ev291, ev292, ev293, ev294, ev295, ev296, ev297, ev298, ev299, ev300, ev301, ev302, ev303, ev304, ev305, ev306, ev307, ev308, ev309, ev310, ev311, ev312, ev313, ev314, ev315, ev316, ev317, ev318, ev319, ev320, ev321, ev322, ev323, ev324, ev325, ev326, ev327, ev328, ev329, ev330, ev331, ev332, ev333, ev334, ev335, ev336, ev337, ev338, ev339, ev340, ev341, ev342, ev343, ev344, ev345, ev346, ev347, ev348, ev349, ev350, ev351, ev352, ev353⟩
end Q

set_option linter.all false
set_option maxRecDepth 100000
set_option maxHeartbeats 4000000
namespace Ma
open Q
def mix (c k : Int) : Int := ((c % 1000000000000000 + 1) * 48271 + k * k * 16807 + k * 7919) % 2147483647 * 69621 % 2147483629
theorem mix_ok {c k : Int} (h0 : -1000 ≤ k) (h1 : k ≤ 1000) : Ev.l_mix [.int c, .int k] = .ok (.int (mix c k)) .cold := by
  refine fn_wp ?_
  unfold Ev.b_l_mix
  have hk := sq_le h0 h1
  have hk0 := sq_nn k
  simp (disch := omega) only [Q.evs, Nat.reduceAdd, Nat.reduceSub, Nat.reduceLeDiff, Nat.reduceLT, Nat.reduceEqDiff, Int.reducePow, Int.reduceToNat, Int.reduceAdd, Int.reduceMul, Int.reduceNeg, Int.reduceSub, Int.reduceLT, Int.reduceLE, decide_eq_true_eq, Bool.or_false, Bool.or_true, Bool.false_or, Bool.true_or, Bool.not_true, Bool.not_false, Bool.not_eq_true, decide_eq_false_iff_not, Bool.not_eq_eq_eq_not, decide_true, decide_false, ↓reduceIte, if_pos, if_neg, Bool.false_eq_true, and_self, and_true, true_and, List.getElem?_cons_zero, List.getElem?_cons_succ, List.set_cons_zero, List.set_cons_succ, List.length_cons, List.length_nil, List.length_map, List.map_cons, List.map_nil, List.replicate, List.cons_append, List.nil_append, List.append_nil, Option.map_some, Option.map_none, mix]
theorem mix_lo {c k : Int} : 0 ≤ mix c k := by unfold mix; omega
theorem mix_hi {c k : Int} : mix c k < 2147483629 := by unfold mix; omega

theorem at_ok {ns : List Int} {k : Int} (h0 : 0 ≤ k) : Ev.l_at [.frz ns, .int k] = .ok (.int (gt ns k)) .cold := by
  refine fn_wp ?_
  unfold Ev.b_l_at
  by_cases h : k < ns.length
  · simp (disch := omega) only [Q.evs, Nat.reduceAdd, Nat.reduceSub, Nat.reduceLeDiff, Nat.reduceLT, Nat.reduceEqDiff, Int.reducePow, Int.reduceToNat, Int.reduceAdd, Int.reduceMul, Int.reduceNeg, Int.reduceSub, Int.reduceLT, Int.reduceLE, decide_eq_true_eq, Bool.or_false, Bool.or_true, Bool.false_or, Bool.true_or, Bool.not_true, Bool.not_false, Bool.not_eq_true, decide_eq_false_iff_not, Bool.not_eq_eq_eq_not, decide_true, decide_false, ↓reduceIte, if_pos, if_neg, Bool.false_eq_true, and_self, and_true, true_and, List.getElem?_cons_zero, List.getElem?_cons_succ, List.set_cons_zero, List.set_cons_succ, List.length_cons, List.length_nil, List.length_map, List.map_cons, List.map_nil, List.replicate, List.cons_append, List.nil_append, List.append_nil, Option.map_some, Option.map_none, atI_gtN h0 h]
  · have e : gt ns k = 0 := by
      unfold gt
      rw [List.getD_eq_getElem?_getD, List.getElem?_eq_none (by omega)]; rfl
    simp (disch := omega) only [Q.evs, Nat.reduceAdd, Nat.reduceSub, Nat.reduceLeDiff, Nat.reduceLT, Nat.reduceEqDiff, Int.reducePow, Int.reduceToNat, Int.reduceAdd, Int.reduceMul, Int.reduceNeg, Int.reduceSub, Int.reduceLT, Int.reduceLE, decide_eq_true_eq, Bool.or_false, Bool.or_true, Bool.false_or, Bool.true_or, Bool.not_true, Bool.not_false, Bool.not_eq_true, decide_eq_false_iff_not, Bool.not_eq_eq_eq_not, decide_true, decide_false, ↓reduceIte, if_pos, if_neg, Bool.false_eq_true, and_self, and_true, true_and, List.getElem?_cons_zero, List.getElem?_cons_succ, List.set_cons_zero, List.set_cons_succ, List.length_cons, List.length_nil, List.length_map, List.map_cons, List.map_nil, List.replicate, List.cons_append, List.nil_append, List.append_nil, Option.map_some, Option.map_none, e]

theorem mem_of_cut {α : Type} {xs pre suf : List α} {x : α} (e : xs = pre ++ x :: suf) : x ∈ xs := by rw [e]; simp
def zp (p : Int × Int) : D := .tup [.int p.1, .int p.2]
/-- a zone for a zone: how many rings -/
def cnt (zs : List (Int × Int)) : List Int := zs.flatMap fun p => List.replicate p.1.toNat p.2
def prd (zs : List (Int × Int)) : Int := zs.foldl (fun a p => a * p.2) 1
theorem cnt_snoc (zs : List (Int × Int)) (p : Int × Int) : cnt (zs ++ [p]) = cnt zs ++ List.replicate p.1.toNat p.2 := by simp [cnt]
theorem prd_snoc (zs : List (Int × Int)) (p : Int × Int) : prd (zs ++ [p]) = prd zs * p.2 := by simp [prd]
structure ZOk (zs : List (Int × Int)) : Prop where
  lo : 1 ≤ zs.length
  hi : zs.length ≤ 5
  z : ∀ p ∈ zs, (1 ≤ p.1 ∧ p.1 ≤ 40) ∧ 1 ≤ p.2 ∧ p.2 ≤ 60
  pos : 1 ≤ prd zs
  pr : prd zs ≤ 32768
  two : 2 ≤ (cnt zs).length
  few : (cnt zs).length ≤ 120
structure ZI (zs : List (Int × Int)) : Prop where
  z : ∀ p ∈ zs, (1 ≤ p.1 ∧ p.1 ≤ 3) ∧ 1 ≤ p.2 ∧ p.2 ≤ 60
  pos : 1 ≤ prd zs
  pr : prd zs ≤ 8 ^ zs.length
  two : 2 ≤ (cnt zs).length
  few : (cnt zs).length ≤ 3 * zs.length
theorem ZI.snoc {zs : List (Int × Int)} (h : ZI zs) {m c : Int} (h0 : 1 ≤ m) (h1 : m ≤ 3) (h2 : 1 ≤ c) (h3 : c ≤ 8) : ZI (zs ++ [(m, c)]) where
  z := by
    intro p hp
    simp only [List.mem_append, List.mem_singleton] at hp
    rcases hp with hp | rfl
    · exact h.z p hp
    · simp; omega
  pos := by
    rw [prd_snoc]
    exact Int.le_trans (by decide) (mul_le (x := prd zs) (y := c) (a := 1) (b := 1) (by decide) h.pos (by decide) h2)
  pr := by
    rw [prd_snoc, List.length_append, List.length_singleton, Int.pow_succ]
    exact mul_le (by have := h.pos; omega) h.pr (by simp; omega) h3
  two := by rw [cnt_snoc]; have := h.two; simp; omega
  few := by rw [cnt_snoc]; have := h.few; simp; omega

def IZ (a b m : Int) (k : Int) (e : Env) : Prop := ∃ zs s, (zs.length : Int) = k ∧ ZI zs ∧ e = [.cold (.int a), .cold (.int b), .cold (.int m), .hot (zs.map zp), s]
theorem zones_ok (a b : Int) : ∃ zs, Ev.l_zones [.int a, .int b] = .ok (.lst (zs.map zp)) .fresh ∧ ZOk zs  := by
  refine fn_wpP (fun r => ∃ zs, r = .ok (.lst (zs.map zp)) .fresh ∧ ZOk zs ) ?_
  unfold Ev.b_l_zones
  by_cases hh : mix b 10 % 9 = 0
  · have k := lc_rng (i := 4) (t := tyes) (x := tupx (acons (op2 opSub (con (.int 40)) (op2 opMul (op2 opMod (call 2 Ev.l_mix (acons (var 0) (acons (op2 opAdd (con (.int 11)) (var 4)) anil))) (con (.int 9))) (var 4)))
        (acons (op2 opAdd (con (.int 1)) (op2 opMod (call 2 Ev.l_mix (acons (var 1) (acons (op2 opAdd (con (.int 11)) (var 4)) anil))) (con (.int 8)))) anil)))
      (e := [.cold (.int a), .cold (.int b), .no, .no, .no]) (g := fun j => zp (40 - mix a (11 + j) % 9 * j, 1 + mix b (11 + j) % 8)) (lo := 0) (hi := 3) (fun j h0 h1 => by
        simp (disch := omega) only [Q.evs, Nat.reduceAdd, Nat.reduceSub, Nat.reduceLeDiff, Nat.reduceLT, Nat.reduceEqDiff, Int.reducePow, Int.reduceToNat, Int.reduceAdd, Int.reduceMul, Int.reduceNeg, Int.reduceSub, Int.reduceLT, Int.reduceLE, decide_eq_true_eq, Bool.or_false, Bool.or_true, Bool.false_or, Bool.true_or, Bool.not_true, Bool.not_false, Bool.not_eq_true, decide_eq_false_iff_not, Bool.not_eq_eq_eq_not, decide_true, decide_false, ↓reduceIte, if_pos, if_neg, Bool.false_eq_true, and_self, and_true, true_and, List.getElem?_cons_zero, List.getElem?_cons_succ, List.set_cons_zero, List.set_cons_succ, List.length_cons, List.length_nil, List.length_map, List.map_cons, List.map_nil, List.replicate, List.cons_append, List.nil_append, List.append_nil, Option.map_some, Option.map_none, lcTurn, mix_ok, zp]) (by omega)
    simp (disch := omega) only [Q.evs, Nat.reduceAdd, Nat.reduceSub, Nat.reduceLeDiff, Nat.reduceLT, Nat.reduceEqDiff, Int.reducePow, Int.reduceToNat, Int.reduceAdd, Int.reduceMul, Int.reduceNeg, Int.reduceSub, Int.reduceLT, Int.reduceLE, decide_eq_true_eq, Bool.or_false, Bool.or_true, Bool.false_or, Bool.true_or, Bool.not_true, Bool.not_false, Bool.not_eq_true, decide_eq_false_iff_not, Bool.not_eq_eq_eq_not, decide_true, decide_false, ↓reduceIte, if_pos, if_neg, Bool.false_eq_true, and_self, and_true, true_and, List.getElem?_cons_zero, List.getElem?_cons_succ, List.set_cons_zero, List.set_cons_succ, List.length_cons, List.length_nil, List.length_map, List.map_cons, List.map_nil, List.replicate, List.cons_append, List.nil_append, List.append_nil, Option.map_some, Option.map_none, mix_ok, hh, k]
    have e3 : rng 0 3 = [0, 1, 2] := rfl
    rw [e3]
    refine ⟨[(40 - mix a 11 % 9 * 0, 1 + mix b 11 % 8), (40 - mix a 12 % 9 * 1, 1 + mix b 12 % 8), (40 - mix a 13 % 9 * 2, 1 + mix b 13 % 8)], rfl, ?_⟩
    have m1 : 1 ≤ 1 + mix b 11 % 8 ∧ 1 + mix b 11 % 8 ≤ 8 := by omega
    have m2 : 1 ≤ 1 + mix b 12 % 8 ∧ 1 + mix b 12 % 8 ≤ 8 := by omega
    have m3 : 1 ≤ 1 + mix b 13 % 8 ∧ 1 + mix b 13 % 8 ≤ 8 := by omega
    have p1 := mul_le (a := 1) (b := 1) (by decide) m1.1 (by decide) m2.1
    have p2 := mul_le (a := 1 + mix b 11 % 8) (b := 1 + mix b 12 % 8) (by omega) m1.2 (by omega) m2.2
    have p3 := mul_le (a := 1) (b := 1) (by decide) (by simpa using p1) (by decide) m3.1
    have p4 := mul_le (a := (1 + mix b 11 % 8) * (1 + mix b 12 % 8)) (b := 1 + mix b 13 % 8) (by omega) p2 (by omega) m3.2
    constructor <;> simp [cnt, prd] <;> omega
  by_cases h : mix b 9 % 8 = 0
  · simp (disch := omega) only [Q.evs, Nat.reduceAdd, Nat.reduceSub, Nat.reduceLeDiff, Nat.reduceLT, Nat.reduceEqDiff, Int.reducePow, Int.reduceToNat, Int.reduceAdd, Int.reduceMul, Int.reduceNeg, Int.reduceSub, Int.reduceLT, Int.reduceLE, decide_eq_true_eq, Bool.or_false, Bool.or_true, Bool.false_or, Bool.true_or, Bool.not_true, Bool.not_false, Bool.not_eq_true, decide_eq_false_iff_not, Bool.not_eq_eq_eq_not, decide_true, decide_false, ↓reduceIte, if_pos, if_neg, Bool.false_eq_true, and_self, and_true, true_and, List.getElem?_cons_zero, List.getElem?_cons_succ, List.set_cons_zero, List.set_cons_succ, List.length_cons, List.length_nil, List.length_map, List.map_cons, List.map_nil, List.replicate, List.cons_append, List.nil_append, List.append_nil, Option.map_some, Option.map_none, mix_ok, h, hh]
    refine ⟨[(2 + mix a 9 % 2, 1 + mix b 8 % 60)], rfl, ?_⟩
    constructor
    · simp
    · simp
    · simp; omega
    · simp [prd]; omega
    · simp [prd]; omega
    · simp [cnt]; omega
    · simp [cnt]; omega
  · have st : ZI [(2 + mix a 2 % 2, 1 + mix b 0 % 8)] := by
      constructor
      · simp; omega
      · simp [prd]; omega
      · simp [prd]; omega
      · simp [cnt]; omega
      · simp [cnt]; omega
    by_cases h1 : mix a 1 % 9 = 0 <;> simp (disch := omega) only [Q.evs, Nat.reduceAdd, Nat.reduceSub, Nat.reduceLeDiff, Nat.reduceLT, Nat.reduceEqDiff, Int.reducePow, Int.reduceToNat, Int.reduceAdd, Int.reduceMul, Int.reduceNeg, Int.reduceSub, Int.reduceLT, Int.reduceLE, decide_eq_true_eq, Bool.or_false, Bool.or_true, Bool.false_or, Bool.true_or, Bool.not_true, Bool.not_false, Bool.not_eq_true, decide_eq_false_iff_not, Bool.not_eq_eq_eq_not, decide_true, decide_false, ↓reduceIte, if_pos, if_neg, Bool.false_eq_true, and_self, and_true, true_and, List.getElem?_cons_zero, List.getElem?_cons_succ, List.set_cons_zero, List.set_cons_succ, List.length_cons, List.length_nil, List.length_map, List.map_cons, List.map_nil, List.replicate, List.cons_append, List.nil_append, List.append_nil, Option.map_some, Option.map_none, mix_ok, h, hh, h1]
    all_goals
      refine wp_bind (wp_rng (IZ a b _) ⟨[(2 + mix a 2 % 2, 1 + mix b 0 % 8)], .no, rfl, st, rfl⟩ ?_ ?_)
      · rintro k e hk hk2 ⟨zs, s, hl, hz, rfl⟩
        simp (disch := omega) only [Q.evs, Nat.reduceAdd, Nat.reduceSub, Nat.reduceLeDiff, Nat.reduceLT, Nat.reduceEqDiff, Int.reducePow, Int.reduceToNat, Int.reduceAdd, Int.reduceMul, Int.reduceNeg, Int.reduceSub, Int.reduceLT, Int.reduceLE, decide_eq_true_eq, Bool.or_false, Bool.or_true, Bool.false_or, Bool.true_or, Bool.not_true, Bool.not_false, Bool.not_eq_true, decide_eq_false_iff_not, Bool.not_eq_eq_eq_not, decide_true, decide_false, ↓reduceIte, if_pos, if_neg, Bool.false_eq_true, and_self, and_true, true_and, List.getElem?_cons_zero, List.getElem?_cons_succ, List.set_cons_zero, List.set_cons_succ, List.length_cons, List.length_nil, List.length_map, List.map_cons, List.map_nil, List.replicate, List.cons_append, List.nil_append, List.append_nil, Option.map_some, Option.map_none, mix_ok]
        refine ⟨zs ++ [(1 + mix a (2 + k) % 3, 1 + mix b k % 8)], .cold (.int k), by simp; omega, hz.snoc (by omega) (by omega) (by omega) (by omega), ?_⟩
        simp [zp]
      · rintro e ⟨zs, s, hl, hz, rfl⟩
        simp (disch := omega) only [Q.evs, Nat.reduceAdd, Nat.reduceSub, Nat.reduceLeDiff, Nat.reduceLT, Nat.reduceEqDiff, Int.reducePow, Int.reduceToNat, Int.reduceAdd, Int.reduceMul, Int.reduceNeg, Int.reduceSub, Int.reduceLT, Int.reduceLE, decide_eq_true_eq, Bool.or_false, Bool.or_true, Bool.false_or, Bool.true_or, Bool.not_true, Bool.not_false, Bool.not_eq_true, decide_eq_false_iff_not, Bool.not_eq_eq_eq_not, decide_true, decide_false, ↓reduceIte, if_pos, if_neg, Bool.false_eq_true, and_self, and_true, true_and, List.getElem?_cons_zero, List.getElem?_cons_succ, List.set_cons_zero, List.set_cons_succ, List.length_cons, List.length_nil, List.length_map, List.map_cons, List.map_nil, List.replicate, List.cons_append, List.nil_append, List.append_nil, Option.map_some, Option.map_none]
        refine ⟨zs, rfl, ?_⟩
        have hl5 : zs.length ≤ 5 ∧ 1 ≤ zs.length := by split at hl <;> omega
        have hfw := hz.few
        refine ⟨by omega, by omega, fun p hp => ?_, hz.pos, ?_, hz.two, by omega⟩
        · have := hz.z p hp; omega
        have h8 : zs.length = 1 ∨ zs.length = 2 ∨ zs.length = 3 ∨ zs.length = 4 ∨ zs.length = 5 := by omega
        have := hz.pr
        rcases h8 with h8 | h8 | h8 | h8 | h8 <;> rw [h8] at this <;> simp at this <;> omega


theorem cnt_len {zs : List (Int × Int)} (hz : ZOk zs) : 2 ≤ (cnt zs).length ∧ (cnt zs).length ≤ 120 := by
  have := hz.two; have := hz.few; omega
theorem cnt_cut {zs pre suf : List (Int × Int)} {x : Int × Int} (hz : ZOk zs) (hx : zs = pre ++ x :: suf) : (cnt pre).length + x.1.toNat ≤ 120 := by
  have h := (cnt_len hz).2
  rw [hx] at h
  simp [cnt] at h ⊢
  omega
def iD (xs : List Int) : D := .lst (xs.map .int)
theorem repD_one (x : D) (k : Int) : repD [x] k = List.replicate k.toNat x := by
  unfold repD
  induction k.toNat with
  | zero => rfl
  | succ n ih => rw [List.replicate_succ, List.flatten_cons, ih, List.replicate_succ]; rfl
theorem counts_ok {zs : List (Int × Int)} (hz : ZOk zs) : Ev.l_counts [.lst (zs.map zp)] = .ok (iD (cnt zs)) .fresh := by
  refine fn_wp ?_
  unfold Ev.b_l_counts
  simp (disch := omega) only [Q.evs, Nat.reduceAdd, Nat.reduceSub, Nat.reduceLeDiff, Nat.reduceLT, Nat.reduceEqDiff, Int.reducePow, Int.reduceToNat, Int.reduceAdd, Int.reduceMul, Int.reduceNeg, Int.reduceSub, Int.reduceLT, Int.reduceLE, decide_eq_true_eq, Bool.or_false, Bool.or_true, Bool.false_or, Bool.true_or, Bool.not_true, Bool.not_false, Bool.not_eq_true, decide_eq_false_iff_not, Bool.not_eq_eq_eq_not, decide_true, decide_false, ↓reduceIte, if_pos, if_neg, Bool.false_eq_true, and_self, and_true, true_and, List.getElem?_cons_zero, List.getElem?_cons_succ, List.set_cons_zero, List.set_cons_succ, List.length_cons, List.length_nil, List.length_map, List.map_cons, List.map_nil, List.replicate, List.cons_append, List.nil_append, List.append_nil, Option.map_some, Option.map_none]
  refine wp_bind (wp_list (fun pre e => ∃ s t, (cnt pre).length ≤ 120 ∧ e = [.cold (.lst (zs.map zp)), .hot ((cnt pre).map .int), s, t]) ⟨_, _, by simp [cnt], rfl⟩ ?_ ?_)
  · rintro pre x suf e hx ⟨s, t, hl, rfl⟩
    have hb := hz.z x (mem_of_cut hx)
    have hh := hz.hi
    rw [hx] at hh
    simp at hh
    refine ⟨_, rfl, ?_⟩
    have hc := cnt_cut hz hx
    have e2 : List.length [D.int x.2] = 1 := rfl
    simp (disch := omega) only [Q.evs, Nat.reduceAdd, Nat.reduceSub, Nat.reduceLeDiff, Nat.reduceLT, Nat.reduceEqDiff, Int.reducePow, Int.reduceToNat, Int.reduceAdd, Int.reduceMul, Int.reduceNeg, Int.reduceSub, Int.reduceLT, Int.reduceLE, decide_eq_true_eq, Bool.or_false, Bool.or_true, Bool.false_or, Bool.true_or, Bool.not_true, Bool.not_false, Bool.not_eq_true, decide_eq_false_iff_not, Bool.not_eq_eq_eq_not, decide_true, decide_false, ↓reduceIte, if_pos, if_neg, Bool.false_eq_true, and_self, and_true, true_and, List.getElem?_cons_zero, List.getElem?_cons_succ, List.set_cons_zero, List.set_cons_succ, List.length_cons, List.length_nil, List.length_map, List.map_cons, List.map_nil, List.replicate, List.cons_append, List.nil_append, List.append_nil, Option.map_some, Option.map_none, zp, repx, repD_one, List.length_replicate, again]
    refine ⟨.cold (.int x.1), .cold (.int x.2), ?_, ?_⟩
    · rw [cnt_snoc]; simp; omega
    · simp [cnt_snoc]
  · rintro e ⟨s, t, hl, rfl⟩
    simp (disch := omega) only [Q.evs, Nat.reduceAdd, Nat.reduceSub, Nat.reduceLeDiff, Nat.reduceLT, Nat.reduceEqDiff, Int.reducePow, Int.reduceToNat, Int.reduceAdd, Int.reduceMul, Int.reduceNeg, Int.reduceSub, Int.reduceLT, Int.reduceLE, decide_eq_true_eq, Bool.or_false, Bool.or_true, Bool.false_or, Bool.true_or, Bool.not_true, Bool.not_false, Bool.not_eq_true, decide_eq_false_iff_not, Bool.not_eq_eq_eq_not, decide_true, decide_false, ↓reduceIte, if_pos, if_neg, Bool.false_eq_true, and_self, and_true, true_and, List.getElem?_cons_zero, List.getElem?_cons_succ, List.set_cons_zero, List.set_cons_succ, List.length_cons, List.length_nil, List.length_map, List.map_cons, List.map_nil, List.replicate, List.cons_append, List.nil_append, List.append_nil, Option.map_some, Option.map_none, iD]

theorem prd_from (b : List (Int × Int)) : ∀ v : Int, b.foldl (fun a p => a * p.2) v = v * prd b := by
  unfold prd
  induction b with
  | nil => intro v; simp
  | cons p r ih => intro v; simp only [List.foldl_cons]; rw [ih, ih (1 * p.2), Int.one_mul, Int.mul_assoc]
theorem prd_append (a b : List (Int × Int)) : prd (a ++ b) = prd a * prd b := by
  unfold prd; rw [List.foldl_append, prd_from]; rfl
theorem prd_cons (p : Int × Int) (b : List (Int × Int)) : prd (p :: b) = p.2 * prd b := by
  unfold prd; rw [List.foldl_cons, prd_from]; simp [prd]
theorem prd_pos {b : List (Int × Int)} (h : ∀ p ∈ b, 1 ≤ p.2) : 1 ≤ prd b := by
  induction b with
  | nil => simp [prd]
  | cons p r ih =>
    rw [prd_cons]
    exact mul_le (a := 1) (b := 1) (by decide) (h p (by simp)) (by decide) (ih fun q hq => h q (by simp [hq]))
theorem prd_pre {pre suf : List (Int × Int)} (h : ∀ p ∈ pre ++ suf, 1 ≤ p.2) : 1 ≤ prd pre ∧ prd pre ≤ prd (pre ++ suf) := by
  have h1 := prd_pos (b := pre) fun p hp => h p (by simp [hp])
  have h2 := prd_pos (b := suf) fun p hp => h p (by simp [hp])
  refine ⟨h1, ?_⟩
  rw [prd_append]
  have := Int.mul_le_mul_of_nonneg_left h2 (by omega : 0 ≤ prd pre)
  omega
theorem prd_dvd {zs : List (Int × Int)} {p : Int × Int} (h : p ∈ zs) : p.2 ∣ prd zs := by
  obtain ⟨a, b, rfl⟩ := List.append_of_mem h
  rw [prd_append, prd_cons]
  exact Int.dvd_trans (Int.dvd_mul_right _ _) (Int.dvd_mul_left _ _)
theorem cnt_mem {zs : List (Int × Int)} {c : Int} (h : c ∈ cnt zs) : ∃ p ∈ zs, p.2 = c := by
  unfold cnt at h
  obtain ⟨p, hp, hc⟩ := List.mem_flatMap.mp h
  exact ⟨p, hp, (List.eq_of_mem_replicate hc).symm⟩
theorem cnt_z {zs : List (Int × Int)} (hz : ZOk zs) {c : Int} (h : c ∈ cnt zs) : 1 ≤ c ∧ c ≤ 60 := by
  obtain ⟨p, hp, rfl⟩ := cnt_mem h; exact (hz.z p hp).2
structure LapOk (zs : List (Int × Int)) (lap : Int) : Prop where
  lo : 1 ≤ lap
  hi : lap ≤ 1000000000
  dv : ∀ c ∈ cnt zs, 1 ≤ c ∧ c ≤ 60 ∧ c ∣ lap
theorem lap_ok {zs : List (Int × Int)} (hz : ZOk zs) (cell : Int) : ∃ lap, Ev.l_lap [.lst (zs.map zp), .int cell] = .ok (.int lap) .cold ∧ LapOk zs lap := by
  refine fn_wpP (fun r => ∃ lap, r = .ok (.int lap) .cold ∧ LapOk zs lap) ?_
  unfold Ev.b_l_lap
  have p1 := hz.pos
  have p2 := hz.pr
  have fin : ∀ m : Int, 1 ≤ m → prd zs * m ≤ 1000000000 → LapOk zs (prd zs * (1 + mix cell 1 % m)) := by
    intro m hm hp
    have a1 := Int.emod_nonneg (mix cell 1) (by omega : m ≠ 0)
    have a2 := Int.emod_lt_of_pos (mix cell 1) (by omega : 0 < m)
    refine ⟨mul_le (a := 1) (b := 1) (by decide) p1 (by decide) (by omega), Int.le_trans (Int.mul_le_mul_of_nonneg_left (by omega) (by omega)) hp, fun c hc => ?_⟩
    obtain ⟨p, hp, rfl⟩ := cnt_mem hc
    have := (hz.z p hp).2
    exact ⟨this.1, this.2, Int.dvd_trans (prd_dvd hp) (Int.dvd_mul_right _ _)⟩
  simp (disch := omega) only [Q.evs, Nat.reduceAdd, Nat.reduceSub, Nat.reduceLeDiff, Nat.reduceLT, Nat.reduceEqDiff, Int.reducePow, Int.reduceToNat, Int.reduceAdd, Int.reduceMul, Int.reduceNeg, Int.reduceSub, Int.reduceLT, Int.reduceLE, decide_eq_true_eq, Bool.or_false, Bool.or_true, Bool.false_or, Bool.true_or, Bool.not_true, Bool.not_false, Bool.not_eq_true, decide_eq_false_iff_not, Bool.not_eq_eq_eq_not, decide_true, decide_false, ↓reduceIte, if_pos, if_neg, Bool.false_eq_true, and_self, and_true, true_and, List.getElem?_cons_zero, List.getElem?_cons_succ, List.set_cons_zero, List.set_cons_succ, List.length_cons, List.length_nil, List.length_map, List.map_cons, List.map_nil, List.replicate, List.cons_append, List.nil_append, List.append_nil, Option.map_some, Option.map_none]
  refine wp_bind (wp_list (fun pre e => ∃ s t, e = [.cold (.lst (zs.map zp)), .cold (.int cell), .cold (.int (prd pre)), s, t, .no]) ⟨_, _, rfl⟩ ?_ ?_)
  · rintro pre x suf e hx ⟨s, t, rfl⟩
    have hb := hz.z x (mem_of_cut hx)
    have hq := prd_pre (pre := pre) (suf := x :: suf) fun p hp => (hz.z p (hx ▸ hp)).2.1
    rw [← hx] at hq
    refine ⟨_, rfl, ?_⟩
    simp (disch := omega) only [Q.evs, Nat.reduceAdd, Nat.reduceSub, Nat.reduceLeDiff, Nat.reduceLT, Nat.reduceEqDiff, Int.reducePow, Int.reduceToNat, Int.reduceAdd, Int.reduceMul, Int.reduceNeg, Int.reduceSub, Int.reduceLT, Int.reduceLE, decide_eq_true_eq, Bool.or_false, Bool.or_true, Bool.false_or, Bool.true_or, Bool.not_true, Bool.not_false, Bool.not_eq_true, decide_eq_false_iff_not, Bool.not_eq_eq_eq_not, decide_true, decide_false, ↓reduceIte, if_pos, if_neg, Bool.false_eq_true, and_self, and_true, true_and, List.getElem?_cons_zero, List.getElem?_cons_succ, List.set_cons_zero, List.set_cons_succ, List.length_cons, List.length_nil, List.length_map, List.map_cons, List.map_nil, List.replicate, List.cons_append, List.nil_append, List.append_nil, Option.map_some, Option.map_none, zp]
    exact ⟨.cold (.int x.1), .cold (.int x.2), by simp [prd_snoc]⟩
  · rintro e ⟨s, t, rfl⟩
    by_cases h : mix cell 0 % 9 = 0
    · have q1 : 1 ≤ 1000000000 / prd zs := (Int.le_ediv_iff_mul_le (by omega)).mpr (by omega)
      have q2 : prd zs * (1000000000 / prd zs) ≤ 1000000000 := Int.mul_ediv_self_le (by omega)
      have f := fin _ q1 q2
      have q3 : 1000000000 / prd zs ≤ 1000000000 := Int.ediv_le_self _ (by decide)
      have a1 := Int.emod_nonneg (mix cell 1) (by omega : 1000000000 / prd zs ≠ 0)
      have a2 := Int.emod_lt_of_pos (mix cell 1) (by omega : 0 < 1000000000 / prd zs)
      simp (disch := omega) only [Q.evs, Nat.reduceAdd, Nat.reduceSub, Nat.reduceLeDiff, Nat.reduceLT, Nat.reduceEqDiff, Int.reducePow, Int.reduceToNat, Int.reduceAdd, Int.reduceMul, Int.reduceNeg, Int.reduceSub, Int.reduceLT, Int.reduceLE, decide_eq_true_eq, Bool.or_false, Bool.or_true, Bool.false_or, Bool.true_or, Bool.not_true, Bool.not_false, Bool.not_eq_true, decide_eq_false_iff_not, Bool.not_eq_eq_eq_not, decide_true, decide_false, ↓reduceIte, if_pos, if_neg, Bool.false_eq_true, and_self, and_true, true_and, List.getElem?_cons_zero, List.getElem?_cons_succ, List.set_cons_zero, List.set_cons_succ, List.length_cons, List.length_nil, List.length_map, List.map_cons, List.map_nil, List.replicate, List.cons_append, List.nil_append, List.append_nil, Option.map_some, Option.map_none, mix_ok, h]
      exact ⟨_, rfl, f⟩
    · have f := fin 900 (by decide) (by omega)
      simp (disch := omega) only [Q.evs, Nat.reduceAdd, Nat.reduceSub, Nat.reduceLeDiff, Nat.reduceLT, Nat.reduceEqDiff, Int.reducePow, Int.reduceToNat, Int.reduceAdd, Int.reduceMul, Int.reduceNeg, Int.reduceSub, Int.reduceLT, Int.reduceLE, decide_eq_true_eq, Bool.or_false, Bool.or_true, Bool.false_or, Bool.true_or, Bool.not_true, Bool.not_false, Bool.not_eq_true, decide_eq_false_iff_not, Bool.not_eq_eq_eq_not, decide_true, decide_false, ↓reduceIte, if_pos, if_neg, Bool.false_eq_true, and_self, and_true, true_and, List.getElem?_cons_zero, List.getElem?_cons_succ, List.set_cons_zero, List.set_cons_succ, List.length_cons, List.length_nil, List.length_map, List.map_cons, List.map_nil, List.replicate, List.cons_append, List.nil_append, List.append_nil, Option.map_some, Option.map_none, mix_ok, h]
      exact ⟨_, rfl, f⟩


theorem gt_snoc {xs : List Int} {x i : Int} (h0 : 0 ≤ i) (h1 : i < xs.length) : gt (xs ++ [x]) i = gt xs i := by
  unfold gt
  rw [List.getD_eq_getElem?_getD, List.getD_eq_getElem?_getD, List.getElem?_append_left (by omega)]
theorem gt_last {xs : List Int} {x i : Int} (h1 : i = xs.length) : gt (xs ++ [x]) i = x := by
  subst h1; unfold gt; simp
theorem atI_neg {xs : List Int} (h : 1 ≤ xs.length) : atI (xs.map D.int) (-1) = some (.int (gt xs (xs.length - 1))) := by
  have e : ixN (xs.map D.int).length (-1) = some (xs.length - 1) := by
    unfold ixN
    rw [if_neg (by omega), if_pos (by simp; omega)]
    simp
    omega
  rw [atI, e]
  simp only [Option.bind_some, List.getElem?_map, gt, List.getD_eq_getElem?_getD]
  have e2 : ((xs.length : Int) - 1).toNat = xs.length - 1 := by omega
  rw [e2, List.getElem?_eq_getElem (by omega)]
  rfl
structure SwOk (n : Int) (sw : List Int) : Prop where
  len : (sw.length : Int) = n
  z : gt sw 0 = 0
  b : ∀ k, 1 ≤ k → k < n → (1 ≤ gt sw k ∧ gt sw k ≤ 1000000000) ∧ gt sw (k - 1) ≤ gt sw k
  sub : ∀ a b, 1 ≤ a → 1 ≤ b → a + b < n → gt sw (a + b) ≤ gt sw a + gt sw b
/-- steps that never grow -/
structure CI (k : Int) (sw : List Int) (step : Int) : Prop where
  len : (sw.length : Int) = k
  two : 2 ≤ k
  z : gt sw 0 = 0
  s1 : 1 ≤ step
  st : gt sw (k - 1) - gt sw (k - 2) = step
  conc : ∀ i j, 0 ≤ i → i ≤ j → j + 1 < k → gt sw (j + 1) - gt sw j ≤ gt sw (i + 1) - gt sw i
  pos : ∀ i, 0 ≤ i → i + 1 < k → 1 ≤ gt sw (i + 1) - gt sw i ∧ gt sw (i + 1) - gt sw i ≤ 8000000
theorem CI.more {k : Int} {sw : List Int} {step n : Int} (h : CI k sw step) (h1 : 1 ≤ n) (h2 : n ≤ step) : CI (k + 1) (sw ++ [gt sw (k - 1) + n]) n := by
  have l := h.len
  have t := h.two
  have g : ∀ i, 0 ≤ i → i < k → gt (sw ++ [gt sw (k - 1) + n]) i = gt sw i := fun i a b => gt_snoc a (by omega)
  have gk : gt (sw ++ [gt sw (k - 1) + n]) k = gt sw (k - 1) + n := gt_last (by omega)
  have s := h.st
  refine ⟨by simp; omega, by omega, by rw [g 0 (by omega) (by omega)]; exact h.z, h1, ?_, ?_, ?_⟩
  · rw [show k + 1 - 1 = k by omega, gk, g _ (by omega) (by omega), show k + 1 - 2 = k - 1 by omega]; omega
  · intro i j a b c
    by_cases e : j + 1 = k
    · rw [e, gk, g j (by omega) (by omega)]
      by_cases e2 : i = j
      · subst e2
        rw [e, gk, g i (by omega) (by omega)]
        omega
      · have := h.conc i (k - 2) a (by omega) (by omega)
        rw [g _ (by omega) (by omega), g _ (by omega) (by omega)]
        rw [show k - 2 + 1 = k - 1 by omega] at this
        rw [show j = k - 1 by omega]
        omega
    · rw [g _ (by omega) (by omega), g _ (by omega) (by omega), g _ (by omega) (by omega), g _ (by omega) (by omega)]
      exact h.conc i j a b (by omega)
  · intro i a b
    by_cases e : i + 1 = k
    · rw [e, gk, g i (by omega) (by omega), show i = k - 1 by omega]
      have := h.pos (k - 2) (by omega) (by omega)
      rw [show k - 2 + 1 = k - 1 by omega] at this
      omega
    · rw [g _ (by omega) (by omega), g _ (by omega) (by omega)]
      exact h.pos i a (by omega)
theorem CI.ok {k : Int} {sw : List Int} {step : Int} (h : CI k sw step) (hk : k ≤ 120) : SwOk k sw := by
  have up : ∀ m : Nat, (m : Int) < k → gt sw m ≤ m * 8000000 ∧ (1 ≤ m → 1 ≤ gt sw m) := by
    intro m
    induction m with
    | zero => intro _; have := h.z; simp; omega
    | succ m ih =>
      intro hm
      have a := ih (by omega)
      have b := h.pos m (by omega) (by omega)
      have z := h.z
      rw [show ((m + 1 : Nat) : Int) = (m : Int) + 1 by omega]
      refine ⟨by omega, fun _ => ?_⟩
      rcases Nat.eq_zero_or_pos m with e | e
      · subst e; simp at b ⊢; omega
      · have := a.2 e; omega
  refine ⟨h.len, h.z, ?_, ?_⟩
  · intro i a b
    have u := up i.toNat (by omega)
    rw [show ((i.toNat : Nat) : Int) = i by omega] at u
    have p := h.pos (i - 1) (by omega) (by omega)
    rw [show i - 1 + 1 = i by omega] at p
    exact ⟨⟨u.2 (by omega), by omega⟩, by omega⟩
  · intro a b ha hb hab
    have key : ∀ m : Nat, a + m < k → gt sw (a + m) - gt sw a ≤ gt sw m := by
      intro m
      induction m with
      | zero => intro _; have := h.z; simp; omega
      | succ m ih =>
        intro hm
        have := ih (by omega)
        have c := h.conc m (a + m) (by omega) (by omega) (by omega)
        rw [show ((m + 1 : Nat) : Int) = (m : Int) + 1 by omega, show a + ((m : Int) + 1) = a + m + 1 by omega]
        omega
    have := key b.toNat (by omega)
    rw [show ((b.toNat : Nat) : Int) = b by omega] at this
    omega
theorem sortI_mem {xs : List Int} {x : Int} : x ∈ sortI xs ↔ x ∈ xs := by unfold sortI; simp [List.mem_mergeSort]
theorem sortI_len (xs : List Int) : (sortI xs).length = xs.length := by unfold sortI; simp [List.length_mergeSort]
theorem sortI_pw (xs : List Int) : (sortI xs).Pairwise (· ≤ ·) := by
  unfold sortI
  have := List.pairwise_mergeSort (le := fun (a b : Int) => decide (a ≤ b)) (by simp; omega) (by simp; omega) xs
  simpa using this
theorem gt_cons {x : Int} {xs : List Int} {i : Int} (h : 1 ≤ i) : gt (x :: xs) i = gt xs (i - 1) := by
  unfold gt
  rw [show i.toNat = (i - 1).toNat + 1 by omega]; rfl
/-- all of a between and its double, in order -/
theorem even_ok {n least : Int} {ys : List Int} (hl : (ys.length : Int) = n - 1) (hs : ys.Pairwise (· ≤ ·)) (h1 : 1 ≤ least) (h2 : least ≤ 100000000) (hb : ∀ y ∈ ys, least ≤ y ∧ y ≤ 2 * least) (hn : 1 ≤ n) : SwOk n (0 :: ys) := by
  have m : ∀ k, 1 ≤ k → k < n → least ≤ gt (0 :: ys) k ∧ gt (0 :: ys) k ≤ 2 * least := fun k a b => by
    rw [gt_cons a]; exact hb _ (gt_mem (by omega) (by omega))
  refine ⟨by simp; omega, rfl, fun k a b => ?_, fun a b ha hb hab => ?_⟩
  · have := m k a b
    refine ⟨by omega, ?_⟩
    by_cases e : k = 1
    · subst e
      show (0 : Int) ≤ _
      omega
    · rw [gt_cons a, gt_cons (by omega)]
      unfold gt
      rw [List.getD_eq_getElem?_getD, List.getD_eq_getElem?_getD, List.getElem?_eq_getElem (by omega), List.getElem?_eq_getElem (by omega)]
      exact List.pairwise_iff_getElem.mp hs _ _ (by omega) (by omega) (by omega)
  · have := m a ha (by omega)
    have := m b hb (by omega)
    have := m (a + b) (by omega) hab
    omega
theorem swing_ok {n : Int} (hn : 2 ≤ n) (hn2 : n ≤ 120) (cell : Int) : ∃ sw, Ev.l_swing [.int n, .int cell] = .ok (iD sw) .fresh ∧ SwOk n sw := by
  refine fn_wpP (fun r => ∃ sw, r = .ok (iD sw) .fresh ∧ SwOk n sw) ?_
  unfold Ev.b_l_swing
  by_cases h : mix cell 0 % 2 = 0
  · by_cases h2 : mix cell 2 % 9 = 0
    all_goals
      simp (disch := omega) only [Q.evs, Nat.reduceAdd, Nat.reduceSub, Nat.reduceLeDiff, Nat.reduceLT, Nat.reduceEqDiff, Int.reducePow, Int.reduceToNat, Int.reduceAdd, Int.reduceMul, Int.reduceNeg, Int.reduceSub, Int.reduceLT, Int.reduceLE, decide_eq_true_eq, Bool.or_false, Bool.or_true, Bool.false_or, Bool.true_or, Bool.not_true, Bool.not_false, Bool.not_eq_true, decide_eq_false_iff_not, Bool.not_eq_eq_eq_not, decide_true, decide_false, ↓reduceIte, if_pos, if_neg, Bool.false_eq_true, and_self, and_true, true_and, List.getElem?_cons_zero, List.getElem?_cons_succ, List.set_cons_zero, List.set_cons_succ, List.length_cons, List.length_nil, List.length_map, List.map_cons, List.map_nil, List.replicate, List.cons_append, List.nil_append, List.append_nil, Option.map_some, Option.map_none, mix_ok, h, h2]
      refine wp_bind (wp_bind (wp_rng (fun k e => ∃ sw step s, CI k sw step ∧ e = [.cold (.int n), .cold (.int cell), .cold (.int step), .hot (sw.map .int), s, .no]) ?_ ?_ ?_))
      · refine ⟨[0, _], _, .no, ?_, rfl⟩
        refine ⟨rfl, by omega, rfl, by omega, by simp [gt], ?_, ?_⟩
        · intro i j a b c
          have e1 : i = 0 := by omega
          have e2 : j = 0 := by omega
          subst e1; subst e2; exact Int.le_refl _
        · intro i a b
          have e1 : i = 0 := by omega
          subst e1
          simp [gt]; omega
      · rintro k e hk hk2 ⟨sw, step, s, hc, rfl⟩
        have hl := hc.len
        have hs := hc.s1
        have hp := hc.pos (k - 2) (by omega) (by omega)
        rw [show k - 2 + 1 = k - 1 by omega, hc.st] at hp
        have m0 := Int.emod_nonneg (mix cell (k + 2)) (by omega : step + 1 ≠ 0)
        have m1 := Int.emod_lt_of_pos (mix cell (k + 2)) (by omega : 0 < step + 1)
        have e2 : ((sw.length : Nat) : Int) - 1 = k - 1 := by omega
        simp (disch := omega) only [Q.evs, Nat.reduceAdd, Nat.reduceSub, Nat.reduceLeDiff, Nat.reduceLT, Nat.reduceEqDiff, Int.reducePow, Int.reduceToNat, Int.reduceAdd, Int.reduceMul, Int.reduceNeg, Int.reduceSub, Int.reduceLT, Int.reduceLE, decide_eq_true_eq, Bool.or_false, Bool.or_true, Bool.false_or, Bool.true_or, Bool.not_true, Bool.not_false, Bool.not_eq_true, decide_eq_false_iff_not, Bool.not_eq_eq_eq_not, decide_true, decide_false, ↓reduceIte, if_pos, if_neg, Bool.false_eq_true, and_self, and_true, true_and, List.getElem?_cons_zero, List.getElem?_cons_succ, List.set_cons_zero, List.set_cons_succ, List.length_cons, List.length_nil, List.length_map, List.map_cons, List.map_nil, List.replicate, List.cons_append, List.nil_append, List.append_nil, Option.map_some, Option.map_none, mix_ok, atI_neg, e2, idx]
        refine ⟨_, step - mix cell (k + 2) % (step + 1) / 2, .cold (.int k), hc.more (n := step - mix cell (k + 2) % (step + 1) / 2) (by omega) (by omega), ?_⟩
        simp
      · rintro e ⟨sw, step, s, hc, rfl⟩
        rw [if_pos hn] at hc
        simp (disch := omega) only [Q.evs, Nat.reduceAdd, Nat.reduceSub, Nat.reduceLeDiff, Nat.reduceLT, Nat.reduceEqDiff, Int.reducePow, Int.reduceToNat, Int.reduceAdd, Int.reduceMul, Int.reduceNeg, Int.reduceSub, Int.reduceLT, Int.reduceLE, decide_eq_true_eq, Bool.or_false, Bool.or_true, Bool.false_or, Bool.true_or, Bool.not_true, Bool.not_false, Bool.not_eq_true, decide_eq_false_iff_not, Bool.not_eq_eq_eq_not, decide_true, decide_false, ↓reduceIte, if_pos, if_neg, Bool.false_eq_true, and_self, and_true, true_and, List.getElem?_cons_zero, List.getElem?_cons_succ, List.set_cons_zero, List.set_cons_succ, List.length_cons, List.length_nil, List.length_map, List.map_cons, List.map_nil, List.replicate, List.cons_append, List.nil_append, List.append_nil, Option.map_some, Option.map_none]
        exact ⟨_, rfl, hc.ok hn2⟩
  · have key : ∀ l : Int, 1 ≤ l → l ≤ 100000000 → lcLoop (.nm 4) tyes (op2 opAdd (var 5) (op2 opMod (call 2 Ev.l_mix (acons (var 1) (acons (op2 opAdd (var 4) (con (.int 2))) anil))) (op2 opAdd (var 5) (con (.int 1)))))
        [.cold (.int n), .cold (.int cell), .no, .no, .no, .cold (.int l)] ((rng 1 n).map .int) [] = some (([] : List D) ++ (rng 1 n).map fun k => .int (l + mix cell (k + 2) % (l + 1))) := by
      intro l l1 l2
      refine lc_map (fun i hi => ?_) ?_
      · have hi := mem_rng.mp hi
        simp (disch := omega) only [Q.evs, Nat.reduceAdd, Nat.reduceSub, Nat.reduceLeDiff, Nat.reduceLT, Nat.reduceEqDiff, Int.reducePow, Int.reduceToNat, Int.reduceAdd, Int.reduceMul, Int.reduceNeg, Int.reduceSub, Int.reduceLT, Int.reduceLE, decide_eq_true_eq, Bool.or_false, Bool.or_true, Bool.false_or, Bool.true_or, Bool.not_true, Bool.not_false, Bool.not_eq_true, decide_eq_false_iff_not, Bool.not_eq_eq_eq_not, decide_true, decide_false, ↓reduceIte, if_pos, if_neg, Bool.false_eq_true, and_self, and_true, true_and, List.getElem?_cons_zero, List.getElem?_cons_succ, List.set_cons_zero, List.set_cons_succ, List.length_cons, List.length_nil, List.length_map, List.map_cons, List.map_nil, List.replicate, List.cons_append, List.nil_append, List.append_nil, Option.map_some, Option.map_none, mix_ok, lcTurn]
      · rw [rng_len]; simp [most]; omega
    have l1 : 1 ≤ 1 + mix cell 1 % 100000000 := by omega
    have l2 : 1 + mix cell 1 % 100000000 ≤ 100000000 := by omega
    have k := key _ l1 l2
    generalize hl : 1 + mix cell 1 % 100000000 = l at *
    have e0 : intsD ((rng 1 n).map fun k => D.int (l + mix cell (k + 2) % (l + 1))) = some ((rng 1 n).map fun k => l + mix cell (k + 2) % (l + 1)) := by
      have := ints_map ((rng 1 n).map fun k => l + mix cell (k + 2) % (l + 1))
      rw [List.map_map] at this
      exact this
    have e1 : (sortI ((rng 1 n).map fun k => l + mix cell (k + 2) % (l + 1))).length = n - 1 := by
      rw [sortI_len, List.length_map, rng_len]; omega
    simp (disch := omega) only [Q.evs, Nat.reduceAdd, Nat.reduceSub, Nat.reduceLeDiff, Nat.reduceLT, Nat.reduceEqDiff, Int.reducePow, Int.reduceToNat, Int.reduceAdd, Int.reduceMul, Int.reduceNeg, Int.reduceSub, Int.reduceLT, Int.reduceLE, decide_eq_true_eq, Bool.or_false, Bool.or_true, Bool.false_or, Bool.true_or, Bool.not_true, Bool.not_false, Bool.not_eq_true, decide_eq_false_iff_not, Bool.not_eq_eq_eq_not, decide_true, decide_false, ↓reduceIte, if_pos, if_neg, Bool.false_eq_true, and_self, and_true, true_and, List.getElem?_cons_zero, List.getElem?_cons_succ, List.set_cons_zero, List.set_cons_succ, List.length_cons, List.length_nil, List.length_map, List.map_cons, List.map_nil, List.replicate, List.cons_append, List.nil_append, List.append_nil, Option.map_some, Option.map_none, mix_ok, h, lc, wipeE, hl, k, sortedI, e0, catx, again]
    refine ⟨0 :: _, rfl, even_ok (least := l) (by omega) (sortI_pw _) l1 l2 (fun y hy => ?_) (by omega)⟩
    obtain ⟨k, _, rfl⟩ := List.mem_map.mp (sortI_mem.mp hy)
    have m0 := Int.emod_nonneg (mix cell (k + 2)) (by omega : l + 1 ≠ 0)
    have m1 := Int.emod_lt_of_pos (mix cell (k + 2)) (by omega : 0 < l + 1)
    omega



theorem ring_counts_ok {zs : List (Int × Int)} (hz : ZOk zs) : Ev.ring_counts [.lst (zs.map zp)] = .ok (iD (cnt zs)) .fresh := by
  refine fn_wp ?_
  unfold Ev.b_ring_counts
  have h1 := hz.lo
  have h2 := hz.hi
  have h3 := cnt_len hz
  simp (disch := omega) only [Q.evs, Nat.reduceAdd, Nat.reduceSub, Nat.reduceLeDiff, Nat.reduceLT, Nat.reduceEqDiff, Int.reducePow, Int.reduceToNat, Int.reduceAdd, Int.reduceMul, Int.reduceNeg, Int.reduceSub, Int.reduceLT, Int.reduceLE, decide_eq_true_eq, Bool.or_false, Bool.or_true, Bool.false_or, Bool.true_or, Bool.not_true, Bool.not_false, Bool.not_eq_true, decide_eq_false_iff_not, Bool.not_eq_eq_eq_not, decide_true, decide_false, ↓reduceIte, if_pos, if_neg, Bool.false_eq_true, and_self, and_true, true_and, List.getElem?_cons_zero, List.getElem?_cons_succ, List.set_cons_zero, List.set_cons_succ, List.length_cons, List.length_nil, List.length_map, List.map_cons, List.map_nil, List.replicate, List.cons_append, List.nil_append, List.append_nil, Option.map_some, Option.map_none]
  refine wp_bind (wp_list (fun pre e => ∃ s t u, e = [.cold (.lst (zs.map zp)), .hot ((cnt pre).map .int), s, t, u]) ⟨_, _, _, rfl⟩ ?_ ?_)
  · rintro pre x suf e hx ⟨s, t, u, rfl⟩
    have hb := hz.z x (mem_of_cut hx)
    have hc := cnt_cut hz hx
    refine ⟨_, rfl, ?_⟩
    simp (disch := omega) only [Q.evs, Nat.reduceAdd, Nat.reduceSub, Nat.reduceLeDiff, Nat.reduceLT, Nat.reduceEqDiff, Int.reducePow, Int.reduceToNat, Int.reduceAdd, Int.reduceMul, Int.reduceNeg, Int.reduceSub, Int.reduceLT, Int.reduceLE, decide_eq_true_eq, Bool.or_false, Bool.or_true, Bool.false_or, Bool.true_or, Bool.not_true, Bool.not_false, Bool.not_eq_true, decide_eq_false_iff_not, Bool.not_eq_eq_eq_not, decide_true, decide_false, ↓reduceIte, if_pos, if_neg, Bool.false_eq_true, and_self, and_true, true_and, List.getElem?_cons_zero, List.getElem?_cons_succ, List.set_cons_zero, List.set_cons_succ, List.length_cons, List.length_nil, List.length_map, List.map_cons, List.map_nil, List.replicate, List.cons_append, List.nil_append, List.append_nil, Option.map_some, Option.map_none, zp]
    refine wp_rng (fun k e => ∃ u, e = [.cold (.lst (zs.map zp)), .hot (((cnt pre) ++ List.replicate k.toNat x.2).map .int), .cold (.int x.1), .cold (.int x.2), u]) ⟨u, by simp⟩ ?_ ?_
    · rintro k e hk hk2 ⟨u, rfl⟩
      simp (disch := omega) only [Q.evs, Nat.reduceAdd, Nat.reduceSub, Nat.reduceLeDiff, Nat.reduceLT, Nat.reduceEqDiff, Int.reducePow, Int.reduceToNat, Int.reduceAdd, Int.reduceMul, Int.reduceNeg, Int.reduceSub, Int.reduceLT, Int.reduceLE, decide_eq_true_eq, Bool.or_false, Bool.or_true, Bool.false_or, Bool.true_or, Bool.not_true, Bool.not_false, Bool.not_eq_true, decide_eq_false_iff_not, Bool.not_eq_eq_eq_not, decide_true, decide_false, ↓reduceIte, if_pos, if_neg, Bool.false_eq_true, and_self, and_true, true_and, List.getElem?_cons_zero, List.getElem?_cons_succ, List.set_cons_zero, List.set_cons_succ, List.length_cons, List.length_nil, List.length_map, List.map_cons, List.map_nil, List.replicate, List.cons_append, List.nil_append, List.append_nil, Option.map_some, Option.map_none, List.length_append, List.length_replicate]
      refine ⟨.cold (.int k), ?_⟩
      rw [show (k + 1).toNat = k.toNat + 1 by omega, List.replicate_succ']
      simp
    · rintro e ⟨u, rfl⟩
      simp (disch := omega) only [Q.evs, Nat.reduceAdd, Nat.reduceSub, Nat.reduceLeDiff, Nat.reduceLT, Nat.reduceEqDiff, Int.reducePow, Int.reduceToNat, Int.reduceAdd, Int.reduceMul, Int.reduceNeg, Int.reduceSub, Int.reduceLT, Int.reduceLE, decide_eq_true_eq, Bool.or_false, Bool.or_true, Bool.false_or, Bool.true_or, Bool.not_true, Bool.not_false, Bool.not_eq_true, decide_eq_false_iff_not, Bool.not_eq_eq_eq_not, decide_true, decide_false, ↓reduceIte, if_pos, if_neg, Bool.false_eq_true, and_self, and_true, true_and, List.getElem?_cons_zero, List.getElem?_cons_succ, List.set_cons_zero, List.set_cons_succ, List.length_cons, List.length_nil, List.length_map, List.map_cons, List.map_nil, List.replicate, List.cons_append, List.nil_append, List.append_nil, Option.map_some, Option.map_none]
      exact ⟨_, _, u, by rw [cnt_snoc]⟩
  · rintro e ⟨s, t, u, rfl⟩
    simp (disch := omega) only [Q.evs, Nat.reduceAdd, Nat.reduceSub, Nat.reduceLeDiff, Nat.reduceLT, Nat.reduceEqDiff, Int.reducePow, Int.reduceToNat, Int.reduceAdd, Int.reduceMul, Int.reduceNeg, Int.reduceSub, Int.reduceLT, Int.reduceLE, decide_eq_true_eq, Bool.or_false, Bool.or_true, Bool.false_or, Bool.true_or, Bool.not_true, Bool.not_false, Bool.not_eq_true, decide_eq_false_iff_not, Bool.not_eq_eq_eq_not, decide_true, decide_false, ↓reduceIte, if_pos, if_neg, Bool.false_eq_true, and_self, and_true, true_and, List.getElem?_cons_zero, List.getElem?_cons_succ, List.set_cons_zero, List.set_cons_succ, List.length_cons, List.length_nil, List.length_map, List.map_cons, List.map_nil, List.replicate, List.cons_append, List.nil_append, List.append_nil, Option.map_some, Option.map_none, iD]

theorem check_lap_ok {zs : List (Int × Int)} (hz : ZOk zs) {lap skew : Int} (hl : LapOk zs lap) (s0 : 0 ≤ skew) (s1 : skew < lap) : Ev.check_lap [iD (cnt zs), .int lap, .int skew] = .ok .non .cold := by
  refine fn_wp ?_
  unfold Ev.b_check_lap
  have h1 := hl.lo
  have h2 := hl.hi
  simp (disch := omega) only [Q.evs, Nat.reduceAdd, Nat.reduceSub, Nat.reduceLeDiff, Nat.reduceLT, Nat.reduceEqDiff, Int.reducePow, Int.reduceToNat, Int.reduceAdd, Int.reduceMul, Int.reduceNeg, Int.reduceSub, Int.reduceLT, Int.reduceLE, decide_eq_true_eq, Bool.or_false, Bool.or_true, Bool.false_or, Bool.true_or, Bool.not_true, Bool.not_false, Bool.not_eq_true, decide_eq_false_iff_not, Bool.not_eq_eq_eq_not, decide_true, decide_false, ↓reduceIte, if_pos, if_neg, Bool.false_eq_true, and_self, and_true, true_and, List.getElem?_cons_zero, List.getElem?_cons_succ, List.set_cons_zero, List.set_cons_succ, List.length_cons, List.length_nil, List.length_map, List.map_cons, List.map_nil, List.replicate, List.cons_append, List.nil_append, List.append_nil, Option.map_some, Option.map_none, iD]
  refine wp_list (fun pre e => ∃ s, e = [.cold (iD (cnt zs)), .cold (.int lap), .cold (.int skew), s]) ⟨_, rfl⟩ ?_ ?_
  · rintro pre x suf e hx ⟨s, rfl⟩
    have hb := hl.dv x (mem_of_cut hx)
    refine ⟨_, rfl, ?_⟩
    have := Int.emod_eq_zero_of_dvd hb.2.2
    simp (disch := omega) only [Q.evs, Nat.reduceAdd, Nat.reduceSub, Nat.reduceLeDiff, Nat.reduceLT, Nat.reduceEqDiff, Int.reducePow, Int.reduceToNat, Int.reduceAdd, Int.reduceMul, Int.reduceNeg, Int.reduceSub, Int.reduceLT, Int.reduceLE, decide_eq_true_eq, Bool.or_false, Bool.or_true, Bool.false_or, Bool.true_or, Bool.not_true, Bool.not_false, Bool.not_eq_true, decide_eq_false_iff_not, Bool.not_eq_eq_eq_not, decide_true, decide_false, ↓reduceIte, if_pos, if_neg, Bool.false_eq_true, and_self, and_true, true_and, List.getElem?_cons_zero, List.getElem?_cons_succ, List.set_cons_zero, List.set_cons_succ, List.length_cons, List.length_nil, List.length_map, List.map_cons, List.map_nil, List.replicate, List.cons_append, List.nil_append, List.append_nil, Option.map_some, Option.map_none, this]
    exact ⟨_, rfl⟩
  · rintro e ⟨s, rfl⟩
    simp (disch := omega) only [Q.evs, Nat.reduceAdd, Nat.reduceSub, Nat.reduceLeDiff, Nat.reduceLT, Nat.reduceEqDiff, Int.reducePow, Int.reduceToNat, Int.reduceAdd, Int.reduceMul, Int.reduceNeg, Int.reduceSub, Int.reduceLT, Int.reduceLE, decide_eq_true_eq, Bool.or_false, Bool.or_true, Bool.false_or, Bool.true_or, Bool.not_true, Bool.not_false, Bool.not_eq_true, decide_eq_false_iff_not, Bool.not_eq_eq_eq_not, decide_true, decide_false, ↓reduceIte, if_pos, if_neg, Bool.false_eq_true, and_self, and_true, true_and, List.getElem?_cons_zero, List.getElem?_cons_succ, List.set_cons_zero, List.set_cons_succ, List.length_cons, List.length_nil, List.length_map, List.map_cons, List.map_nil, List.replicate, List.cons_append, List.nil_append, List.append_nil, Option.map_some, Option.map_none]

theorem check_swing_ok {n : Int} {sw : List Int} (h : SwOk n sw) (hn : 2 ≤ n) (hn2 : n ≤ 200) : Ev.check_swing [iD sw, .int n] = .ok .non .cold := by
  refine fn_wp ?_
  unfold Ev.b_check_swing
  have h1 := h.len
  have h2 := h.z
  simp (disch := omega) only [Q.evs, Nat.reduceAdd, Nat.reduceSub, Nat.reduceLeDiff, Nat.reduceLT, Nat.reduceEqDiff, Int.reducePow, Int.reduceToNat, Int.reduceAdd, Int.reduceMul, Int.reduceNeg, Int.reduceSub, Int.reduceLT, Int.reduceLE, decide_eq_true_eq, Bool.or_false, Bool.or_true, Bool.false_or, Bool.true_or, Bool.not_true, Bool.not_false, Bool.not_eq_true, decide_eq_false_iff_not, Bool.not_eq_eq_eq_not, decide_true, decide_false, ↓reduceIte, if_pos, if_neg, Bool.false_eq_true, and_self, and_true, true_and, List.getElem?_cons_zero, List.getElem?_cons_succ, List.set_cons_zero, List.set_cons_succ, List.length_cons, List.length_nil, List.length_map, List.map_cons, List.map_nil, List.replicate, List.cons_append, List.nil_append, List.append_nil, Option.map_some, Option.map_none, iD, atI_gt, h1, h2]
  refine wp_bind (wp_rng (fun k e => ∃ s, e = [.cold (iD sw), .cold (.int n), s, .no, .no]) ⟨_, rfl⟩ ?_ ?_)
  · rintro k e hk hk2 ⟨s, rfl⟩
    have hb := h.b k hk hk2
    simp (disch := omega) only [Q.evs, Nat.reduceAdd, Nat.reduceSub, Nat.reduceLeDiff, Nat.reduceLT, Nat.reduceEqDiff, Int.reducePow, Int.reduceToNat, Int.reduceAdd, Int.reduceMul, Int.reduceNeg, Int.reduceSub, Int.reduceLT, Int.reduceLE, decide_eq_true_eq, Bool.or_false, Bool.or_true, Bool.false_or, Bool.true_or, Bool.not_true, Bool.not_false, Bool.not_eq_true, decide_eq_false_iff_not, Bool.not_eq_eq_eq_not, decide_true, decide_false, ↓reduceIte, if_pos, if_neg, Bool.false_eq_true, and_self, and_true, true_and, List.getElem?_cons_zero, List.getElem?_cons_succ, List.set_cons_zero, List.set_cons_succ, List.length_cons, List.length_nil, List.length_map, List.map_cons, List.map_nil, List.replicate, List.cons_append, List.nil_append, List.append_nil, Option.map_some, Option.map_none, iD, atI_gt]
    exact ⟨_, rfl⟩
  · rintro e ⟨s, rfl⟩
    simp (disch := omega) only [Q.evs, Nat.reduceAdd, Nat.reduceSub, Nat.reduceLeDiff, Nat.reduceLT, Nat.reduceEqDiff, Int.reducePow, Int.reduceToNat, Int.reduceAdd, Int.reduceMul, Int.reduceNeg, Int.reduceSub, Int.reduceLT, Int.reduceLE, decide_eq_true_eq, Bool.or_false, Bool.or_true, Bool.false_or, Bool.true_or, Bool.not_true, Bool.not_false, Bool.not_eq_true, decide_eq_false_iff_not, Bool.not_eq_eq_eq_not, decide_true, decide_false, ↓reduceIte, if_pos, if_neg, Bool.false_eq_true, and_self, and_true, true_and, List.getElem?_cons_zero, List.getElem?_cons_succ, List.set_cons_zero, List.set_cons_succ, List.length_cons, List.length_nil, List.length_map, List.map_cons, List.map_nil, List.replicate, List.cons_append, List.nil_append, List.append_nil, Option.map_some, Option.map_none]
    refine wp_rng (fun k e => ∃ t u, e = [.cold (iD sw), .cold (.int n), s, t, u]) ⟨_, _, rfl⟩ ?_ ?_
    · rintro k e hk hk2 ⟨t, u, rfl⟩
      simp (disch := omega) only [Q.evs, Nat.reduceAdd, Nat.reduceSub, Nat.reduceLeDiff, Nat.reduceLT, Nat.reduceEqDiff, Int.reducePow, Int.reduceToNat, Int.reduceAdd, Int.reduceMul, Int.reduceNeg, Int.reduceSub, Int.reduceLT, Int.reduceLE, decide_eq_true_eq, Bool.or_false, Bool.or_true, Bool.false_or, Bool.true_or, Bool.not_true, Bool.not_false, Bool.not_eq_true, decide_eq_false_iff_not, Bool.not_eq_eq_eq_not, decide_true, decide_false, ↓reduceIte, if_pos, if_neg, Bool.false_eq_true, and_self, and_true, true_and, List.getElem?_cons_zero, List.getElem?_cons_succ, List.set_cons_zero, List.set_cons_succ, List.length_cons, List.length_nil, List.length_map, List.map_cons, List.map_nil, List.replicate, List.cons_append, List.nil_append, List.append_nil, Option.map_some, Option.map_none]
      refine wp_rng (fun j e => ∃ u, e = [.cold (iD sw), .cold (.int n), s, .cold (.int k), u]) ⟨_, rfl⟩ ?_ ?_
      · rintro j e hj hj2 ⟨u, rfl⟩
        have hb := h.sub k j (by omega) (by omega) (by omega)
        simp (disch := omega) only [Q.evs, Nat.reduceAdd, Nat.reduceSub, Nat.reduceLeDiff, Nat.reduceLT, Nat.reduceEqDiff, Int.reducePow, Int.reduceToNat, Int.reduceAdd, Int.reduceMul, Int.reduceNeg, Int.reduceSub, Int.reduceLT, Int.reduceLE, decide_eq_true_eq, Bool.or_false, Bool.or_true, Bool.false_or, Bool.true_or, Bool.not_true, Bool.not_false, Bool.not_eq_true, decide_eq_false_iff_not, Bool.not_eq_eq_eq_not, decide_true, decide_false, ↓reduceIte, if_pos, if_neg, Bool.false_eq_true, and_self, and_true, true_and, List.getElem?_cons_zero, List.getElem?_cons_succ, List.set_cons_zero, List.set_cons_succ, List.length_cons, List.length_nil, List.length_map, List.map_cons, List.map_nil, List.replicate, List.cons_append, List.nil_append, List.append_nil, Option.map_some, Option.map_none, iD, atI_gt]
        exact ⟨_, rfl⟩
      · rintro e ⟨t, rfl⟩
        simp (disch := omega) only [Q.evs, Nat.reduceAdd, Nat.reduceSub, Nat.reduceLeDiff, Nat.reduceLT, Nat.reduceEqDiff, Int.reducePow, Int.reduceToNat, Int.reduceAdd, Int.reduceMul, Int.reduceNeg, Int.reduceSub, Int.reduceLT, Int.reduceLE, decide_eq_true_eq, Bool.or_false, Bool.or_true, Bool.false_or, Bool.true_or, Bool.not_true, Bool.not_false, Bool.not_eq_true, decide_eq_false_iff_not, Bool.not_eq_eq_eq_not, decide_true, decide_false, ↓reduceIte, if_pos, if_neg, Bool.false_eq_true, and_self, and_true, true_and, List.getElem?_cons_zero, List.getElem?_cons_succ, List.set_cons_zero, List.set_cons_succ, List.length_cons, List.length_nil, List.length_map, List.map_cons, List.map_nil, List.replicate, List.cons_append, List.nil_append, List.append_nil, Option.map_some, Option.map_none]
        exact ⟨_, _, rfl⟩
    · rintro e ⟨t, u, rfl⟩
      simp (disch := omega) only [Q.evs, Nat.reduceAdd, Nat.reduceSub, Nat.reduceLeDiff, Nat.reduceLT, Nat.reduceEqDiff, Int.reducePow, Int.reduceToNat, Int.reduceAdd, Int.reduceMul, Int.reduceNeg, Int.reduceSub, Int.reduceLT, Int.reduceLE, decide_eq_true_eq, Bool.or_false, Bool.or_true, Bool.false_or, Bool.true_or, Bool.not_true, Bool.not_false, Bool.not_eq_true, decide_eq_false_iff_not, Bool.not_eq_eq_eq_not, decide_true, decide_false, ↓reduceIte, if_pos, if_neg, Bool.false_eq_true, and_self, and_true, true_and, List.getElem?_cons_zero, List.getElem?_cons_succ, List.set_cons_zero, List.set_cons_succ, List.length_cons, List.length_nil, List.length_map, List.map_cons, List.map_nil, List.replicate, List.cons_append, List.nil_append, List.append_nil, Option.map_some, Option.map_none]

theorem all_iD (xs : List Int) : (xs.map D.int).all D.scalar = true := by simp [D.scalar]
theorem flat_iD (xs : List Int) : (iD xs).flat = true := all_iD xs
def plateD (cs : List Int) (lap skew : Int) (sw : List Int) : D := .obj 0 [iD cs, .int lap, .int skew, iD sw, .int 0]

theorem plate_ok {zs : List (Int × Int)} (hz : ZOk zs) {lap skew : Int} (hl : LapOk zs lap) (s0 : 0 ≤ skew) (s1 : skew < lap) {sw : List Int} (h : SwOk (cnt zs).length sw) :
    Ev.Plate_init [.lst (zs.map zp), .int lap, .int skew, iD sw] = .ok (plateD (cnt zs) lap skew sw) .fresh := by
  refine fnIB_wpP (fun r => r = .ok (plateD (cnt zs) lap skew sw) .fresh) ?_
  unfold Ev.b_Plate_init
  have h3 := cnt_len hz
  have c := check_swing_ok h (by omega) (by omega)
  have l := check_lap_ok hz hl s0 s1
  have r := ring_counts_ok hz
  have f := flat_iD (cnt zs)
  have a := all_iD sw
  unfold iD at *
  simp (disch := omega) only [Q.evs, Nat.reduceAdd, Nat.reduceSub, Nat.reduceLeDiff, Nat.reduceLT, Nat.reduceEqDiff, Int.reducePow, Int.reduceToNat, Int.reduceAdd, Int.reduceMul, Int.reduceNeg, Int.reduceSub, Int.reduceLT, Int.reduceLE, decide_eq_true_eq, Bool.or_false, Bool.or_true, Bool.false_or, Bool.true_or, Bool.not_true, Bool.not_false, Bool.not_eq_true, decide_eq_false_iff_not, Bool.not_eq_eq_eq_not, decide_true, decide_false, ↓reduceIte, if_pos, if_neg, Bool.false_eq_true, and_self, and_true, true_and, List.getElem?_cons_zero, List.getElem?_cons_succ, List.set_cons_zero, List.set_cons_succ, List.length_cons, List.length_nil, List.length_map, List.map_cons, List.map_nil, List.replicate, List.cons_append, List.nil_append, List.append_nil, Option.map_some, Option.map_none, r, l, c, f, a, plateD, iD, again]

theorem rings_ok (cs : List Int) (lap skew : Int) (sw : List Int) : Ev.Plate_rings [plateD cs lap skew sw] = .ok (.int cs.length) .cold := by
  refine fn_wp ?_
  unfold Ev.b_Plate_rings
  simp (disch := omega) only [Q.evs, Nat.reduceAdd, Nat.reduceSub, Nat.reduceLeDiff, Nat.reduceLT, Nat.reduceEqDiff, Int.reducePow, Int.reduceToNat, Int.reduceAdd, Int.reduceMul, Int.reduceNeg, Int.reduceSub, Int.reduceLT, Int.reduceLE, decide_eq_true_eq, Bool.or_false, Bool.or_true, Bool.false_or, Bool.true_or, Bool.not_true, Bool.not_false, Bool.not_eq_true, decide_eq_false_iff_not, Bool.not_eq_eq_eq_not, decide_true, decide_false, ↓reduceIte, if_pos, if_neg, Bool.false_eq_true, and_self, and_true, true_and, List.getElem?_cons_zero, List.getElem?_cons_succ, List.set_cons_zero, List.set_cons_succ, List.length_cons, List.length_nil, List.length_map, List.map_cons, List.map_nil, List.replicate, List.cons_append, List.nil_append, List.append_nil, Option.map_some, Option.map_none, plateD, iD]

theorem isN_plate (cs : List Int) (lap skew : Int) (sw : List Int) : opIsN (plateD cs lap skew sw) = some (.bl false) := rfl
theorem methS_plate (m : Nat) (g : List D → R) (cs : List Int) (lap skew : Int) (sw : List Int) (c : Cl) (r : RA) :
    methS 0 m g (plateD cs lap skew sw) c r = r.bind fun ds t => if ds.length = m then ended (dirty c (plateD cs lap skew sw) || t) (g (plateD cs lap skew sw :: ds)) else .bad := rfl

def nice : Nat → D → Bool
  | _, .non => true
  | _, .bl _ => true
  | _, .int _ => true
  | _, .str _ => true
  | n + 1, .tup xs => decide (xs.length ≤ 1000000) && xs.all (nice n)
  | n + 1, .lst xs => decide (xs.length ≤ 1000000) && xs.all (nice n)
  | _, _ => false
theorem nice_int (n : Nat) (i : Int) : nice n (.int i) = true := by cases n <;> rfl
theorem nice_bl (n : Nat) (i : Bool) : nice n (.bl i) = true := by cases n <;> rfl
theorem nice_non (n : Nat) : nice n .non = true := by cases n <;> rfl
theorem nice_str (n : Nat) (i : PySem.Str) : nice n (.str i) = true := by cases n <;> rfl
theorem nice_tup {n : Nat} {xs : List D} (h : xs.length ≤ 1000000) (k : ∀ x ∈ xs, nice n x = true) : nice (n + 1) (.tup xs) = true := by
  simp only [nice, Bool.and_eq_true, decide_eq_true_eq, List.all_eq_true]; exact ⟨h, k⟩
theorem nice_lst {n : Nat} {xs : List D} (h : xs.length ≤ 1000000) (k : ∀ x ∈ xs, nice n x = true) : nice (n + 1) (.lst xs) = true := by
  simp only [nice, Bool.and_eq_true, decide_eq_true_eq, List.all_eq_true]; exact ⟨h, k⟩
theorem nice_iD {n : Nat} {xs : List Int} (h : xs.length ≤ 1000000) : nice (n + 1) (iD xs) = true :=
  nice_lst (by simpa using h) fun x hx => by obtain ⟨i, _, rfl⟩ := List.mem_map.mp hx; exact nice_int _ _
theorem atI_in {α : Type} {xs : List α} {i : Int} (h0 : 0 ≤ i) (h1 : i < xs.length) : ∃ x ∈ xs, atI xs i = some x := ⟨_, List.getElem_mem _, atI_of h0 h1⟩
theorem same_ok : ∀ (n : Nat) (d : D), nice n d = true → Ev.it_l_same (n + 1) [d, d] = .ok (.bl true) .cold := by
  intro n
  induction n with
  | zero =>
    intro d h
    show fn 3 _ _ = _
    refine fn_wp ?_
    unfold Ev.b_l_same
    cases d <;> simp [nice] at h
    all_goals simp (disch := omega) only [Q.evs, Nat.reduceAdd, Nat.reduceSub, Nat.reduceLeDiff, Nat.reduceLT, Nat.reduceEqDiff, Int.reducePow, Int.reduceToNat, Int.reduceAdd, Int.reduceMul, Int.reduceNeg, Int.reduceSub, Int.reduceLT, Int.reduceLE, decide_eq_true_eq, Bool.or_false, Bool.or_true, Bool.false_or, Bool.true_or, Bool.not_true, Bool.not_false, Bool.not_eq_true, decide_eq_false_iff_not, Bool.not_eq_eq_eq_not, decide_true, decide_false, ↓reduceIte, if_pos, if_neg, Bool.false_eq_true, and_self, and_true, true_and, List.getElem?_cons_zero, List.getElem?_cons_succ, List.set_cons_zero, List.set_cons_succ, List.length_cons, List.length_nil, List.length_map, List.map_cons, List.map_nil, List.replicate, List.cons_append, List.nil_append, List.append_nil, Option.map_some, Option.map_none, isTup, isLst, isTL, isBl, isStr, isInt]
  | succ n ih =>
    intro d h
    show fn 3 _ _ = _
    refine fn_wp ?_
    unfold Ev.b_l_same
    cases d with
    | tup xs =>
      simp only [nice, Bool.and_eq_true, decide_eq_true_eq, List.all_eq_true] at h
      have hl := h.1
      simp (disch := omega) only [Q.evs, Nat.reduceAdd, Nat.reduceSub, Nat.reduceLeDiff, Nat.reduceLT, Nat.reduceEqDiff, Int.reducePow, Int.reduceToNat, Int.reduceAdd, Int.reduceMul, Int.reduceNeg, Int.reduceSub, Int.reduceLT, Int.reduceLE, decide_eq_true_eq, Bool.or_false, Bool.or_true, Bool.false_or, Bool.true_or, Bool.not_true, Bool.not_false, Bool.not_eq_true, decide_eq_false_iff_not, Bool.not_eq_eq_eq_not, decide_true, decide_false, ↓reduceIte, if_pos, if_neg, Bool.false_eq_true, and_self, and_true, true_and, List.getElem?_cons_zero, List.getElem?_cons_succ, List.set_cons_zero, List.set_cons_succ, List.length_cons, List.length_nil, List.length_map, List.map_cons, List.map_nil, List.replicate, List.cons_append, List.nil_append, List.append_nil, Option.map_some, Option.map_none, isTup, isLst, isTL, isBl, isStr, isInt]
      refine wp_bind (wp_bind (wp_rng (fun k e => ∃ s, e = [.cold (.tup xs), .cold (.tup xs), s]) ⟨_, rfl⟩ ?_ ?_))
      · rintro k e hk hk2 ⟨s, rfl⟩
        obtain ⟨x, hx, ex⟩ := atI_in hk hk2
        have := ih x (h.2 x hx)
        simp (disch := omega) only [Q.evs, Nat.reduceAdd, Nat.reduceSub, Nat.reduceLeDiff, Nat.reduceLT, Nat.reduceEqDiff, Int.reducePow, Int.reduceToNat, Int.reduceAdd, Int.reduceMul, Int.reduceNeg, Int.reduceSub, Int.reduceLT, Int.reduceLE, decide_eq_true_eq, Bool.or_false, Bool.or_true, Bool.false_or, Bool.true_or, Bool.not_true, Bool.not_false, Bool.not_eq_true, decide_eq_false_iff_not, Bool.not_eq_eq_eq_not, decide_true, decide_false, ↓reduceIte, if_pos, if_neg, Bool.false_eq_true, and_self, and_true, true_and, List.getElem?_cons_zero, List.getElem?_cons_succ, List.set_cons_zero, List.set_cons_succ, List.length_cons, List.length_nil, List.length_map, List.map_cons, List.map_nil, List.replicate, List.cons_append, List.nil_append, List.append_nil, Option.map_some, Option.map_none, ex, this]
        exact ⟨_, rfl⟩
      · rintro e ⟨s, rfl⟩
        simp (disch := omega) only [Q.evs, Nat.reduceAdd, Nat.reduceSub, Nat.reduceLeDiff, Nat.reduceLT, Nat.reduceEqDiff, Int.reducePow, Int.reduceToNat, Int.reduceAdd, Int.reduceMul, Int.reduceNeg, Int.reduceSub, Int.reduceLT, Int.reduceLE, decide_eq_true_eq, Bool.or_false, Bool.or_true, Bool.false_or, Bool.true_or, Bool.not_true, Bool.not_false, Bool.not_eq_true, decide_eq_false_iff_not, Bool.not_eq_eq_eq_not, decide_true, decide_false, ↓reduceIte, if_pos, if_neg, Bool.false_eq_true, and_self, and_true, true_and, List.getElem?_cons_zero, List.getElem?_cons_succ, List.set_cons_zero, List.set_cons_succ, List.length_cons, List.length_nil, List.length_map, List.map_cons, List.map_nil, List.replicate, List.cons_append, List.nil_append, List.append_nil, Option.map_some, Option.map_none]
    | lst xs =>
      simp only [nice, Bool.and_eq_true, decide_eq_true_eq, List.all_eq_true] at h
      have hl := h.1
      simp (disch := omega) only [Q.evs, Nat.reduceAdd, Nat.reduceSub, Nat.reduceLeDiff, Nat.reduceLT, Nat.reduceEqDiff, Int.reducePow, Int.reduceToNat, Int.reduceAdd, Int.reduceMul, Int.reduceNeg, Int.reduceSub, Int.reduceLT, Int.reduceLE, decide_eq_true_eq, Bool.or_false, Bool.or_true, Bool.false_or, Bool.true_or, Bool.not_true, Bool.not_false, Bool.not_eq_true, decide_eq_false_iff_not, Bool.not_eq_eq_eq_not, decide_true, decide_false, ↓reduceIte, if_pos, if_neg, Bool.false_eq_true, and_self, and_true, true_and, List.getElem?_cons_zero, List.getElem?_cons_succ, List.set_cons_zero, List.set_cons_succ, List.length_cons, List.length_nil, List.length_map, List.map_cons, List.map_nil, List.replicate, List.cons_append, List.nil_append, List.append_nil, Option.map_some, Option.map_none, isTup, isLst, isTL, isBl, isStr, isInt]
      refine wp_bind (wp_bind (wp_rng (fun k e => ∃ s, e = [.cold (.lst xs), .cold (.lst xs), s]) ⟨_, rfl⟩ ?_ ?_))
      · rintro k e hk hk2 ⟨s, rfl⟩
        obtain ⟨x, hx, ex⟩ := atI_in hk hk2
        have := ih x (h.2 x hx)
        simp (disch := omega) only [Q.evs, Nat.reduceAdd, Nat.reduceSub, Nat.reduceLeDiff, Nat.reduceLT, Nat.reduceEqDiff, Int.reducePow, Int.reduceToNat, Int.reduceAdd, Int.reduceMul, Int.reduceNeg, Int.reduceSub, Int.reduceLT, Int.reduceLE, decide_eq_true_eq, Bool.or_false, Bool.or_true, Bool.false_or, Bool.true_or, Bool.not_true, Bool.not_false, Bool.not_eq_true, decide_eq_false_iff_not, Bool.not_eq_eq_eq_not, decide_true, decide_false, ↓reduceIte, if_pos, if_neg, Bool.false_eq_true, and_self, and_true, true_and, List.getElem?_cons_zero, List.getElem?_cons_succ, List.set_cons_zero, List.set_cons_succ, List.length_cons, List.length_nil, List.length_map, List.map_cons, List.map_nil, List.replicate, List.cons_append, List.nil_append, List.append_nil, Option.map_some, Option.map_none, ex, this]
        exact ⟨_, rfl⟩
      · rintro e ⟨s, rfl⟩
        simp (disch := omega) only [Q.evs, Nat.reduceAdd, Nat.reduceSub, Nat.reduceLeDiff, Nat.reduceLT, Nat.reduceEqDiff, Int.reducePow, Int.reduceToNat, Int.reduceAdd, Int.reduceMul, Int.reduceNeg, Int.reduceSub, Int.reduceLT, Int.reduceLE, decide_eq_true_eq, Bool.or_false, Bool.or_true, Bool.false_or, Bool.true_or, Bool.not_true, Bool.not_false, Bool.not_eq_true, decide_eq_false_iff_not, Bool.not_eq_eq_eq_not, decide_true, decide_false, ↓reduceIte, if_pos, if_neg, Bool.false_eq_true, and_self, and_true, true_and, List.getElem?_cons_zero, List.getElem?_cons_succ, List.set_cons_zero, List.set_cons_succ, List.length_cons, List.length_nil, List.length_map, List.map_cons, List.map_nil, List.replicate, List.cons_append, List.nil_append, List.append_nil, Option.map_some, Option.map_none]
    | frz xs => simp [nice] at h
    | obj c xs => simp [nice] at h
    | _ => simp (disch := omega) only [Q.evs, Nat.reduceAdd, Nat.reduceSub, Nat.reduceLeDiff, Nat.reduceLT, Nat.reduceEqDiff, Int.reducePow, Int.reduceToNat, Int.reduceAdd, Int.reduceMul, Int.reduceNeg, Int.reduceSub, Int.reduceLT, Int.reduceLE, decide_eq_true_eq, Bool.or_false, Bool.or_true, Bool.false_or, Bool.true_or, Bool.not_true, Bool.not_false, Bool.not_eq_true, decide_eq_false_iff_not, Bool.not_eq_eq_eq_not, decide_true, decide_false, ↓reduceIte, if_pos, if_neg, Bool.false_eq_true, and_self, and_true, true_and, List.getElem?_cons_zero, List.getElem?_cons_succ, List.set_cons_zero, List.set_cons_succ, List.length_cons, List.length_nil, List.length_map, List.map_cons, List.map_nil, List.replicate, List.cons_append, List.nil_append, List.append_nil, Option.map_some, Option.map_none, isTup, isLst, isTL, isBl, isStr, isInt]
theorem same_refl {d : D} (h : nice 7 d = true) : Ev.l_same [d, d] = .ok (.bl true) .cold := same_ok 7 d h
theorem same_of {d d' : D} (e : d = d') (h : nice 7 d' = true) : Ev.l_same [d, d'] = .ok (.bl true) .cold := by subst e; exact same_ok 7 d h

theorem zp_plain (zs : List (Int × Int)) : (D.lst (zs.map zp)).plain = true := by
  rw [D.plain]; exact plains_all fun d hd => by obtain ⟨p, _, rfl⟩ := List.mem_map.mp hd; rfl
theorem zp_depth (zs : List (Int × Int)) : (D.lst (zs.map zp)).depth ≤ 64 := by
  rw [D.depth]
  have := depths_le (ds := zs.map zp) (n := 1) fun d hd => by obtain ⟨p, _, rfl⟩ := List.mem_map.mp hd; exact Nat.le_refl _
  omega
theorem cut_len {α : Type} (xs : List α) (l h : Option Int) : (cut xs l h).length ≤ xs.length := by
  unfold cut
  have := sIx_le (n := xs.length) (d := xs.length) (Nat.le_refl _) h
  simp only [List.length_take, List.length_drop]
  omega

structure POk (cs : List Int) (lap sk : Int) (sw : List Int) : Prop where
  two : 2 ≤ cs.length
  few : cs.length ≤ 120
  c : ∀ c ∈ cs, 1 ≤ c ∧ c ≤ 60 ∧ c ∣ lap
  l0 : 1 ≤ lap
  l1 : lap ≤ 1000000000
  s0 : 0 ≤ sk
  s1 : sk < lap
  w : SwOk cs.length sw
def resT (cs : List Int) (lap sk k p : Int) : Int := (p * (lap / gt cs k) + k * sk) % lap
def nxt (cs : List Int) (lap sk k p b : Int) : Int := b + (resT cs lap sk k p - b) % lap
theorem POk.at {cs lap sk sw} (P : POk cs lap sk sw) {k : Int} (h0 : 0 ≤ k) (h1 : k < cs.length) : (1 ≤ gt cs k ∧ gt cs k ≤ 60 ∧ gt cs k ∣ lap) ∧ 0 ≤ lap / gt cs k ∧ lap / gt cs k ≤ lap := by
  have c := P.c _ (gt_mem h0 h1)
  have l0 := P.l0
  exact ⟨c, Int.ediv_nonneg (by omega) (by omega), Int.ediv_le_self _ (by omega)⟩
theorem POk.res {cs lap sk sw} (P : POk cs lap sk sw) (k p : Int) : 0 ≤ resT cs lap sk k p ∧ resT cs lap sk k p < lap := by
  have l0 := P.l0
  exact ⟨Int.emod_nonneg _ (by omega), Int.emod_lt_of_pos _ (by omega)⟩
theorem POk.nxt {cs lap sk sw} (P : POk cs lap sk sw) (k p b : Int) : b ≤ nxt cs lap sk k p b ∧ nxt cs lap sk k p b < b + lap ∧ nxt cs lap sk k p b % lap = resT cs lap sk k p := by
  have l0 := P.l0
  have r := P.res k p
  have n0 := Int.emod_nonneg (resT cs lap sk k p - b) (by omega : lap ≠ 0)
  have n1 := Int.emod_lt_of_pos (resT cs lap sk k p - b) (by omega : 0 < lap)
  refine ⟨by unfold Ma.nxt; omega, by unfold Ma.nxt; omega, ?_⟩
  unfold Ma.nxt
  rw [Int.add_emod_emod, show b + (resT cs lap sk k p - b) = resT cs lap sk k p by omega]
  exact Int.emod_eq_of_lt r.1 r.2

/-- all of it up to the plate -/
theorem plateP {zs : List (Int × Int)} (hz : ZOk zs) {lap skew : Int} (hl : LapOk zs lap) (s0 : 0 ≤ skew) (s1 : skew < lap) {sw : List Int} (h : SwOk (cnt zs).length sw) :
    Ev.Plate_init [.lst (zs.map zp), .int lap, .int skew, .lst (sw.map .int)] = .ok (plateD (cnt zs) lap skew sw) .fresh ∧ POk (cnt zs) lap skew sw :=
  ⟨plate_ok hz hl s0 s1 h, (cnt_len hz).1, (cnt_len hz).2, fun c h => hl.dv c h, hl.lo, hl.hi, s0, s1, h⟩

end Ma

set_option linter.all false
set_option maxRecDepth 100000
set_option maxHeartbeats 4000000
namespace Ma
open Q
/-! ### what is refused -/
theorem ring_counts_no {zs : List (Int × Int)} (hl : zs.length ≤ 1000) (h : ¬ ((1 ≤ zs.length ∧ zs.length ≤ 5) ∧ (∀ p ∈ zs, (1 ≤ p.1 ∧ p.1 ≤ 40) ∧ 1 ≤ p.2 ∧ p.2 ≤ 60) ∧ 2 ≤ (cnt zs).length ∧ (cnt zs).length ≤ 120)) :
    Ev.ring_counts [.lst (zs.map zp)] = .exc 2 [] := by
  refine fn_wp ?_
  unfold Ev.b_ring_counts
  by_cases h0 : 1 ≤ (zs.length : Int) ∧ (zs.length : Int) ≤ 5
  · simp (disch := omega) only [Q.evs, Nat.reduceAdd, Nat.reduceSub, Nat.reduceLeDiff, Nat.reduceLT, Nat.reduceEqDiff, Int.reducePow, Int.reduceToNat, Int.reduceAdd, Int.reduceMul, Int.reduceNeg, Int.reduceSub, Int.reduceLT, Int.reduceLE, decide_eq_true_eq, Bool.or_false, Bool.or_true, Bool.false_or, Bool.true_or, Bool.not_true, Bool.not_false, Bool.not_eq_true, decide_eq_false_iff_not, Bool.not_eq_eq_eq_not, decide_true, decide_false, ↓reduceIte, if_pos, if_neg, Bool.false_eq_true, and_self, and_true, true_and, List.getElem?_cons_zero, List.getElem?_cons_succ, List.set_cons_zero, List.set_cons_succ, List.length_cons, List.length_nil, List.length_map, List.map_cons, List.map_nil, List.replicate, List.cons_append, List.nil_append, List.append_nil, Option.map_some, Option.map_none, h0.1, h0.2]
    refine wp_bind (wp_list (fun pre e => ∃ s t u, (∀ p ∈ pre, (1 ≤ p.1 ∧ p.1 ≤ 40) ∧ 1 ≤ p.2 ∧ p.2 ≤ 60) ∧ (cnt pre).length ≤ 40 * pre.length ∧ e = [.cold (.lst (zs.map zp)), .hot ((cnt pre).map .int), s, t, u]) ⟨_, _, _, fun p hp => by simp at hp, by simp [cnt], rfl⟩ ?_ ?_)
    · rintro pre x suf e hx ⟨s, t, u, hp, hn, rfl⟩
      have hpl : pre.length ≤ zs.length := by rw [hx]; simp
      refine ⟨_, rfl, ?_⟩
      by_cases hb : (1 ≤ x.1 ∧ x.1 ≤ 40) ∧ 1 ≤ x.2 ∧ x.2 ≤ 60
      · simp (disch := omega) only [Q.evs, Nat.reduceAdd, Nat.reduceSub, Nat.reduceLeDiff, Nat.reduceLT, Nat.reduceEqDiff, Int.reducePow, Int.reduceToNat, Int.reduceAdd, Int.reduceMul, Int.reduceNeg, Int.reduceSub, Int.reduceLT, Int.reduceLE, decide_eq_true_eq, Bool.or_false, Bool.or_true, Bool.false_or, Bool.true_or, Bool.not_true, Bool.not_false, Bool.not_eq_true, decide_eq_false_iff_not, Bool.not_eq_eq_eq_not, decide_true, decide_false, ↓reduceIte, if_pos, if_neg, Bool.false_eq_true, and_self, and_true, true_and, List.getElem?_cons_zero, List.getElem?_cons_succ, List.set_cons_zero, List.set_cons_succ, List.length_cons, List.length_nil, List.length_map, List.map_cons, List.map_nil, List.replicate, List.cons_append, List.nil_append, List.append_nil, Option.map_some, Option.map_none, zp]
        refine wp_rng (fun k e => ∃ u, e = [.cold (.lst (zs.map zp)), .hot (((cnt pre) ++ List.replicate k.toNat x.2).map .int), .cold (.int x.1), .cold (.int x.2), u]) ⟨u, by simp⟩ ?_ ?_
        · rintro k e hk hk2 ⟨u, rfl⟩
          simp (disch := omega) only [Q.evs, Nat.reduceAdd, Nat.reduceSub, Nat.reduceLeDiff, Nat.reduceLT, Nat.reduceEqDiff, Int.reducePow, Int.reduceToNat, Int.reduceAdd, Int.reduceMul, Int.reduceNeg, Int.reduceSub, Int.reduceLT, Int.reduceLE, decide_eq_true_eq, Bool.or_false, Bool.or_true, Bool.false_or, Bool.true_or, Bool.not_true, Bool.not_false, Bool.not_eq_true, decide_eq_false_iff_not, Bool.not_eq_eq_eq_not, decide_true, decide_false, ↓reduceIte, if_pos, if_neg, Bool.false_eq_true, and_self, and_true, true_and, List.getElem?_cons_zero, List.getElem?_cons_succ, List.set_cons_zero, List.set_cons_succ, List.length_cons, List.length_nil, List.length_map, List.map_cons, List.map_nil, List.replicate, List.cons_append, List.nil_append, List.append_nil, Option.map_some, Option.map_none, List.length_append, List.length_replicate]
          refine ⟨.cold (.int k), ?_⟩
          rw [show (k + 1).toNat = k.toNat + 1 by omega, List.replicate_succ']
          simp
        · rintro e ⟨u, rfl⟩
          simp (disch := omega) only [Q.evs, Nat.reduceAdd, Nat.reduceSub, Nat.reduceLeDiff, Nat.reduceLT, Nat.reduceEqDiff, Int.reducePow, Int.reduceToNat, Int.reduceAdd, Int.reduceMul, Int.reduceNeg, Int.reduceSub, Int.reduceLT, Int.reduceLE, decide_eq_true_eq, Bool.or_false, Bool.or_true, Bool.false_or, Bool.true_or, Bool.not_true, Bool.not_false, Bool.not_eq_true, decide_eq_false_iff_not, Bool.not_eq_eq_eq_not, decide_true, decide_false, ↓reduceIte, if_pos, if_neg, Bool.false_eq_true, and_self, and_true, true_and, List.getElem?_cons_zero, List.getElem?_cons_succ, List.set_cons_zero, List.set_cons_succ, List.length_cons, List.length_nil, List.length_map, List.map_cons, List.map_nil, List.replicate, List.cons_append, List.nil_append, List.append_nil, Option.map_some, Option.map_none]
          refine ⟨_, _, u, fun p hp' => ?_, ?_, by rw [cnt_snoc]⟩
          · rcases List.mem_append.mp hp' with hp' | hp'
            · exact hp p hp'
            · simp at hp'; subst hp'; exact hb
          · rw [cnt_snoc]; simp; omega
      · by_cases h1 : 1 ≤ x.1 <;> by_cases h2 : x.1 ≤ 40 <;> by_cases h3 : 1 ≤ x.2 <;> by_cases h4 : x.2 ≤ 60
        · omega
        all_goals
          simp (disch := omega) only [Q.evs, Nat.reduceAdd, Nat.reduceSub, Nat.reduceLeDiff, Nat.reduceLT, Nat.reduceEqDiff, Int.reducePow, Int.reduceToNat, Int.reduceAdd, Int.reduceMul, Int.reduceNeg, Int.reduceSub, Int.reduceLT, Int.reduceLE, decide_eq_true_eq, Bool.or_false, Bool.or_true, Bool.false_or, Bool.true_or, Bool.not_true, Bool.not_false, Bool.not_eq_true, decide_eq_false_iff_not, Bool.not_eq_eq_eq_not, decide_true, decide_false, ↓reduceIte, if_pos, if_neg, Bool.false_eq_true, and_self, and_true, true_and, List.getElem?_cons_zero, List.getElem?_cons_succ, List.set_cons_zero, List.set_cons_succ, List.length_cons, List.length_nil, List.length_map, List.map_cons, List.map_nil, List.replicate, List.cons_append, List.nil_append, List.append_nil, Option.map_some, Option.map_none, zp, h1, h2, h3, h4]
    · rintro e ⟨s, t, u, hp, hn, rfl⟩
      by_cases h1 : 2 ≤ ((cnt zs).length : Int) <;> by_cases h2 : ((cnt zs).length : Int) ≤ 120
      · exact absurd ⟨⟨by omega, by omega⟩, hp, by omega, by omega⟩ h
      all_goals
        simp (disch := omega) only [Q.evs, Nat.reduceAdd, Nat.reduceSub, Nat.reduceLeDiff, Nat.reduceLT, Nat.reduceEqDiff, Int.reducePow, Int.reduceToNat, Int.reduceAdd, Int.reduceMul, Int.reduceNeg, Int.reduceSub, Int.reduceLT, Int.reduceLE, decide_eq_true_eq, Bool.or_false, Bool.or_true, Bool.false_or, Bool.true_or, Bool.not_true, Bool.not_false, Bool.not_eq_true, decide_eq_false_iff_not, Bool.not_eq_eq_eq_not, decide_true, decide_false, ↓reduceIte, if_pos, if_neg, Bool.false_eq_true, and_self, and_true, true_and, List.getElem?_cons_zero, List.getElem?_cons_succ, List.set_cons_zero, List.set_cons_succ, List.length_cons, List.length_nil, List.length_map, List.map_cons, List.map_nil, List.replicate, List.cons_append, List.nil_append, List.append_nil, Option.map_some, Option.map_none, h1, h2]
  · by_cases h1 : 1 ≤ (zs.length : Int) <;> by_cases h2 : (zs.length : Int) ≤ 5
    · omega
    all_goals
      simp (disch := omega) only [Q.evs, Nat.reduceAdd, Nat.reduceSub, Nat.reduceLeDiff, Nat.reduceLT, Nat.reduceEqDiff, Int.reducePow, Int.reduceToNat, Int.reduceAdd, Int.reduceMul, Int.reduceNeg, Int.reduceSub, Int.reduceLT, Int.reduceLE, decide_eq_true_eq, Bool.or_false, Bool.or_true, Bool.false_or, Bool.true_or, Bool.not_true, Bool.not_false, Bool.not_eq_true, decide_eq_false_iff_not, Bool.not_eq_eq_eq_not, decide_true, decide_false, ↓reduceIte, if_pos, if_neg, Bool.false_eq_true, and_self, and_true, true_and, List.getElem?_cons_zero, List.getElem?_cons_succ, List.set_cons_zero, List.set_cons_succ, List.length_cons, List.length_nil, List.length_map, List.map_cons, List.map_nil, List.replicate, List.cons_append, List.nil_append, List.append_nil, Option.map_some, Option.map_none, h1, h2]
structure ZR (zs : List (Int × Int)) : Prop where
  lo : 1 ≤ zs.length
  hi : zs.length ≤ 5
  z : ∀ p ∈ zs, (1 ≤ p.1 ∧ p.1 ≤ 40) ∧ 1 ≤ p.2 ∧ p.2 ≤ 60
  two : 2 ≤ (cnt zs).length
  few : (cnt zs).length ≤ 120
theorem zr_cut {zs pre suf : List (Int × Int)} {x : Int × Int} (hz : ZR zs) (hx : zs = pre ++ x :: suf) : (cnt pre).length + x.1.toNat ≤ 120 := by
  have h := hz.few
  rw [hx] at h
  simp [cnt] at h ⊢
  omega
theorem ring_counts_yes {zs : List (Int × Int)} (hz : ZR zs) : Ev.ring_counts [.lst (zs.map zp)] = .ok (iD (cnt zs)) .fresh := by
  refine fn_wp ?_
  unfold Ev.b_ring_counts
  have h1 := hz.lo
  have h2 := hz.hi
  have h3 : 2 ≤ (cnt zs).length ∧ (cnt zs).length ≤ 120 := ⟨hz.two, hz.few⟩
  simp (disch := omega) only [Q.evs, Nat.reduceAdd, Nat.reduceSub, Nat.reduceLeDiff, Nat.reduceLT, Nat.reduceEqDiff, Int.reducePow, Int.reduceToNat, Int.reduceAdd, Int.reduceMul, Int.reduceNeg, Int.reduceSub, Int.reduceLT, Int.reduceLE, decide_eq_true_eq, Bool.or_false, Bool.or_true, Bool.false_or, Bool.true_or, Bool.not_true, Bool.not_false, Bool.not_eq_true, decide_eq_false_iff_not, Bool.not_eq_eq_eq_not, decide_true, decide_false, ↓reduceIte, if_pos, if_neg, Bool.false_eq_true, and_self, and_true, true_and, List.getElem?_cons_zero, List.getElem?_cons_succ, List.set_cons_zero, List.set_cons_succ, List.length_cons, List.length_nil, List.length_map, List.map_cons, List.map_nil, List.replicate, List.cons_append, List.nil_append, List.append_nil, Option.map_some, Option.map_none]
  refine wp_bind (wp_list (fun pre e => ∃ s t u, e = [.cold (.lst (zs.map zp)), .hot ((cnt pre).map .int), s, t, u]) ⟨_, _, _, rfl⟩ ?_ ?_)
  · rintro pre x suf e hx ⟨s, t, u, rfl⟩
    have hb := hz.z x (mem_of_cut hx)
    have hc := zr_cut hz hx
    refine ⟨_, rfl, ?_⟩
    simp (disch := omega) only [Q.evs, Nat.reduceAdd, Nat.reduceSub, Nat.reduceLeDiff, Nat.reduceLT, Nat.reduceEqDiff, Int.reducePow, Int.reduceToNat, Int.reduceAdd, Int.reduceMul, Int.reduceNeg, Int.reduceSub, Int.reduceLT, Int.reduceLE, decide_eq_true_eq, Bool.or_false, Bool.or_true, Bool.false_or, Bool.true_or, Bool.not_true, Bool.not_false, Bool.not_eq_true, decide_eq_false_iff_not, Bool.not_eq_eq_eq_not, decide_true, decide_false, ↓reduceIte, if_pos, if_neg, Bool.false_eq_true, and_self, and_true, true_and, List.getElem?_cons_zero, List.getElem?_cons_succ, List.set_cons_zero, List.set_cons_succ, List.length_cons, List.length_nil, List.length_map, List.map_cons, List.map_nil, List.replicate, List.cons_append, List.nil_append, List.append_nil, Option.map_some, Option.map_none, zp]
    refine wp_rng (fun k e => ∃ u, e = [.cold (.lst (zs.map zp)), .hot (((cnt pre) ++ List.replicate k.toNat x.2).map .int), .cold (.int x.1), .cold (.int x.2), u]) ⟨u, by simp⟩ ?_ ?_
    · rintro k e hk hk2 ⟨u, rfl⟩
      simp (disch := omega) only [Q.evs, Nat.reduceAdd, Nat.reduceSub, Nat.reduceLeDiff, Nat.reduceLT, Nat.reduceEqDiff, Int.reducePow, Int.reduceToNat, Int.reduceAdd, Int.reduceMul, Int.reduceNeg, Int.reduceSub, Int.reduceLT, Int.reduceLE, decide_eq_true_eq, Bool.or_false, Bool.or_true, Bool.false_or, Bool.true_or, Bool.not_true, Bool.not_false, Bool.not_eq_true, decide_eq_false_iff_not, Bool.not_eq_eq_eq_not, decide_true, decide_false, ↓reduceIte, if_pos, if_neg, Bool.false_eq_true, and_self, and_true, true_and, List.getElem?_cons_zero, List.getElem?_cons_succ, List.set_cons_zero, List.set_cons_succ, List.length_cons, List.length_nil, List.length_map, List.map_cons, List.map_nil, List.replicate, List.cons_append, List.nil_append, List.append_nil, Option.map_some, Option.map_none, List.length_append, List.length_replicate]
      refine ⟨.cold (.int k), ?_⟩
      rw [show (k + 1).toNat = k.toNat + 1 by omega, List.replicate_succ']
      simp
    · rintro e ⟨u, rfl⟩
      simp (disch := omega) only [Q.evs, Nat.reduceAdd, Nat.reduceSub, Nat.reduceLeDiff, Nat.reduceLT, Nat.reduceEqDiff, Int.reducePow, Int.reduceToNat, Int.reduceAdd, Int.reduceMul, Int.reduceNeg, Int.reduceSub, Int.reduceLT, Int.reduceLE, decide_eq_true_eq, Bool.or_false, Bool.or_true, Bool.false_or, Bool.true_or, Bool.not_true, Bool.not_false, Bool.not_eq_true, decide_eq_false_iff_not, Bool.not_eq_eq_eq_not, decide_true, decide_false, ↓reduceIte, if_pos, if_neg, Bool.false_eq_true, and_self, and_true, true_and, List.getElem?_cons_zero, List.getElem?_cons_succ, List.set_cons_zero, List.set_cons_succ, List.length_cons, List.length_nil, List.length_map, List.map_cons, List.map_nil, List.replicate, List.cons_append, List.nil_append, List.append_nil, Option.map_some, Option.map_none]
      exact ⟨_, _, u, by rw [cnt_snoc]⟩
  · rintro e ⟨s, t, u, rfl⟩
    simp (disch := omega) only [Q.evs, Nat.reduceAdd, Nat.reduceSub, Nat.reduceLeDiff, Nat.reduceLT, Nat.reduceEqDiff, Int.reducePow, Int.reduceToNat, Int.reduceAdd, Int.reduceMul, Int.reduceNeg, Int.reduceSub, Int.reduceLT, Int.reduceLE, decide_eq_true_eq, Bool.or_false, Bool.or_true, Bool.false_or, Bool.true_or, Bool.not_true, Bool.not_false, Bool.not_eq_true, decide_eq_false_iff_not, Bool.not_eq_eq_eq_not, decide_true, decide_false, ↓reduceIte, if_pos, if_neg, Bool.false_eq_true, and_self, and_true, true_and, List.getElem?_cons_zero, List.getElem?_cons_succ, List.set_cons_zero, List.set_cons_succ, List.length_cons, List.length_nil, List.length_map, List.map_cons, List.map_nil, List.replicate, List.cons_append, List.nil_append, List.append_nil, Option.map_some, Option.map_none, iD]
theorem check_lap_no {cs : List Int} (hc : ∀ c ∈ cs, 1 ≤ c) {lap skew : Int} (h : ¬ ((1 ≤ lap ∧ lap ≤ 1000000000) ∧ (0 ≤ skew ∧ skew < lap) ∧ ∀ c ∈ cs, lap % c ≤ 0)) : Ev.check_lap [iD cs, .int lap, .int skew] = .exc 2 [] := by
  refine fn_wp ?_
  unfold Ev.b_check_lap
  by_cases h1 : 1 ≤ lap <;> by_cases h2 : lap ≤ 1000000000 <;> by_cases h3 : 0 ≤ skew <;> by_cases h4 : skew < lap
  · simp (disch := omega) only [Q.evs, Nat.reduceAdd, Nat.reduceSub, Nat.reduceLeDiff, Nat.reduceLT, Nat.reduceEqDiff, Int.reducePow, Int.reduceToNat, Int.reduceAdd, Int.reduceMul, Int.reduceNeg, Int.reduceSub, Int.reduceLT, Int.reduceLE, decide_eq_true_eq, Bool.or_false, Bool.or_true, Bool.false_or, Bool.true_or, Bool.not_true, Bool.not_false, Bool.not_eq_true, decide_eq_false_iff_not, Bool.not_eq_eq_eq_not, decide_true, decide_false, ↓reduceIte, if_pos, if_neg, Bool.false_eq_true, and_self, and_true, true_and, List.getElem?_cons_zero, List.getElem?_cons_succ, List.set_cons_zero, List.set_cons_succ, List.length_cons, List.length_nil, List.length_map, List.map_cons, List.map_nil, List.replicate, List.cons_append, List.nil_append, List.append_nil, Option.map_some, Option.map_none, iD, h1, h2, h3, h4]
    refine wp_list (fun pre e => ∃ s, (∀ c ∈ pre, lap % c ≤ 0) ∧ e = [.cold (iD cs), .cold (.int lap), .cold (.int skew), s]) ⟨_, fun c h => by simp at h, rfl⟩ ?_ ?_
    · rintro pre x suf e hx ⟨s, hp, rfl⟩
      have hb := hc x (mem_of_cut hx)
      refine ⟨_, rfl, ?_⟩
      by_cases hz : 0 < lap % x
      · simp (disch := omega) only [Q.evs, Nat.reduceAdd, Nat.reduceSub, Nat.reduceLeDiff, Nat.reduceLT, Nat.reduceEqDiff, Int.reducePow, Int.reduceToNat, Int.reduceAdd, Int.reduceMul, Int.reduceNeg, Int.reduceSub, Int.reduceLT, Int.reduceLE, decide_eq_true_eq, Bool.or_false, Bool.or_true, Bool.false_or, Bool.true_or, Bool.not_true, Bool.not_false, Bool.not_eq_true, decide_eq_false_iff_not, Bool.not_eq_eq_eq_not, decide_true, decide_false, ↓reduceIte, if_pos, if_neg, Bool.false_eq_true, and_self, and_true, true_and, List.getElem?_cons_zero, List.getElem?_cons_succ, List.set_cons_zero, List.set_cons_succ, List.length_cons, List.length_nil, List.length_map, List.map_cons, List.map_nil, List.replicate, List.cons_append, List.nil_append, List.append_nil, Option.map_some, Option.map_none, hz]
      · simp (disch := omega) only [Q.evs, Nat.reduceAdd, Nat.reduceSub, Nat.reduceLeDiff, Nat.reduceLT, Nat.reduceEqDiff, Int.reducePow, Int.reduceToNat, Int.reduceAdd, Int.reduceMul, Int.reduceNeg, Int.reduceSub, Int.reduceLT, Int.reduceLE, decide_eq_true_eq, Bool.or_false, Bool.or_true, Bool.false_or, Bool.true_or, Bool.not_true, Bool.not_false, Bool.not_eq_true, decide_eq_false_iff_not, Bool.not_eq_eq_eq_not, decide_true, decide_false, ↓reduceIte, if_pos, if_neg, Bool.false_eq_true, and_self, and_true, true_and, List.getElem?_cons_zero, List.getElem?_cons_succ, List.set_cons_zero, List.set_cons_succ, List.length_cons, List.length_nil, List.length_map, List.map_cons, List.map_nil, List.replicate, List.cons_append, List.nil_append, List.append_nil, Option.map_some, Option.map_none, hz]
        refine ⟨_, fun c hc' => ?_, rfl⟩
        rcases List.mem_append.mp hc' with hc' | hc'
        · exact hp c hc'
        · simp at hc'; subst hc'; omega
    · rintro e ⟨s, hp, rfl⟩
      exact absurd ⟨⟨h1, h2⟩, ⟨h3, h4⟩, hp⟩ h
  all_goals
    simp (disch := omega) only [Q.evs, Nat.reduceAdd, Nat.reduceSub, Nat.reduceLeDiff, Nat.reduceLT, Nat.reduceEqDiff, Int.reducePow, Int.reduceToNat, Int.reduceAdd, Int.reduceMul, Int.reduceNeg, Int.reduceSub, Int.reduceLT, Int.reduceLE, decide_eq_true_eq, Bool.or_false, Bool.or_true, Bool.false_or, Bool.true_or, Bool.not_true, Bool.not_false, Bool.not_eq_true, decide_eq_false_iff_not, Bool.not_eq_eq_eq_not, decide_true, decide_false, ↓reduceIte, if_pos, if_neg, Bool.false_eq_true, and_self, and_true, true_and, List.getElem?_cons_zero, List.getElem?_cons_succ, List.set_cons_zero, List.set_cons_succ, List.length_cons, List.length_nil, List.length_map, List.map_cons, List.map_nil, List.replicate, List.cons_append, List.nil_append, List.append_nil, Option.map_some, Option.map_none, iD, h1, h2, h3, h4]
theorem check_lap_yes {cs : List Int} (hc : ∀ c ∈ cs, 1 ≤ c) {lap skew : Int} (h : (1 ≤ lap ∧ lap ≤ 1000000000) ∧ (0 ≤ skew ∧ skew < lap) ∧ ∀ c ∈ cs, lap % c ≤ 0) : Ev.check_lap [iD cs, .int lap, .int skew] = .ok .non .cold := by
  refine fn_wp ?_
  unfold Ev.b_check_lap
  obtain ⟨⟨h1, h2⟩, ⟨h3, h4⟩, h5⟩ := h
  simp (disch := omega) only [Q.evs, Nat.reduceAdd, Nat.reduceSub, Nat.reduceLeDiff, Nat.reduceLT, Nat.reduceEqDiff, Int.reducePow, Int.reduceToNat, Int.reduceAdd, Int.reduceMul, Int.reduceNeg, Int.reduceSub, Int.reduceLT, Int.reduceLE, decide_eq_true_eq, Bool.or_false, Bool.or_true, Bool.false_or, Bool.true_or, Bool.not_true, Bool.not_false, Bool.not_eq_true, decide_eq_false_iff_not, Bool.not_eq_eq_eq_not, decide_true, decide_false, ↓reduceIte, if_pos, if_neg, Bool.false_eq_true, and_self, and_true, true_and, List.getElem?_cons_zero, List.getElem?_cons_succ, List.set_cons_zero, List.set_cons_succ, List.length_cons, List.length_nil, List.length_map, List.map_cons, List.map_nil, List.replicate, List.cons_append, List.nil_append, List.append_nil, Option.map_some, Option.map_none, iD]
  refine wp_list (fun pre e => ∃ s, e = [.cold (iD cs), .cold (.int lap), .cold (.int skew), s]) ⟨_, rfl⟩ ?_ ?_
  · rintro pre x suf e hx ⟨s, rfl⟩
    have hb := hc x (mem_of_cut hx)
    have hd := h5 x (mem_of_cut hx)
    refine ⟨_, rfl, ?_⟩
    simp (disch := omega) only [Q.evs, Nat.reduceAdd, Nat.reduceSub, Nat.reduceLeDiff, Nat.reduceLT, Nat.reduceEqDiff, Int.reducePow, Int.reduceToNat, Int.reduceAdd, Int.reduceMul, Int.reduceNeg, Int.reduceSub, Int.reduceLT, Int.reduceLE, decide_eq_true_eq, Bool.or_false, Bool.or_true, Bool.false_or, Bool.true_or, Bool.not_true, Bool.not_false, Bool.not_eq_true, decide_eq_false_iff_not, Bool.not_eq_eq_eq_not, decide_true, decide_false, ↓reduceIte, if_pos, if_neg, Bool.false_eq_true, and_self, and_true, true_and, List.getElem?_cons_zero, List.getElem?_cons_succ, List.set_cons_zero, List.set_cons_succ, List.length_cons, List.length_nil, List.length_map, List.map_cons, List.map_nil, List.replicate, List.cons_append, List.nil_append, List.append_nil, Option.map_some, Option.map_none]
    exact ⟨_, rfl⟩
  · rintro e ⟨s, rfl⟩
    simp (disch := omega) only [Q.evs, Nat.reduceAdd, Nat.reduceSub, Nat.reduceLeDiff, Nat.reduceLT, Nat.reduceEqDiff, Int.reducePow, Int.reduceToNat, Int.reduceAdd, Int.reduceMul, Int.reduceNeg, Int.reduceSub, Int.reduceLT, Int.reduceLE, decide_eq_true_eq, Bool.or_false, Bool.or_true, Bool.false_or, Bool.true_or, Bool.not_true, Bool.not_false, Bool.not_eq_true, decide_eq_false_iff_not, Bool.not_eq_eq_eq_not, decide_true, decide_false, ↓reduceIte, if_pos, if_neg, Bool.false_eq_true, and_self, and_true, true_and, List.getElem?_cons_zero, List.getElem?_cons_succ, List.set_cons_zero, List.set_cons_succ, List.length_cons, List.length_nil, List.length_map, List.map_cons, List.map_nil, List.replicate, List.cons_append, List.nil_append, List.append_nil, Option.map_some, Option.map_none]
theorem check_swing_no {n : Int} {sw : List Int} (hn : 2 ≤ n) (hn2 : n ≤ 200) (hl : sw.length ≤ 1000)
    (h : ¬ ((sw.length : Int) = n ∧ gt sw 0 = 0 ∧ (∀ k, 1 ≤ k → k < n → (1 ≤ gt sw k ∧ gt sw k ≤ 1000000000) ∧ gt sw (k - 1) ≤ gt sw k) ∧ ∀ a b, 1 ≤ a → a ≤ b → a + b < n → gt sw (a + b) ≤ gt sw a + gt sw b)) :
    Ev.check_swing [iD sw, .int n] = .exc 2 [] := by
  refine fn_wp ?_
  unfold Ev.b_check_swing
  by_cases h1 : (sw.length : Int) = n
  · by_cases h2 : gt sw 0 = 0
    · simp (disch := omega) only [Q.evs, Nat.reduceAdd, Nat.reduceSub, Nat.reduceLeDiff, Nat.reduceLT, Nat.reduceEqDiff, Int.reducePow, Int.reduceToNat, Int.reduceAdd, Int.reduceMul, Int.reduceNeg, Int.reduceSub, Int.reduceLT, Int.reduceLE, decide_eq_true_eq, Bool.or_false, Bool.or_true, Bool.false_or, Bool.true_or, Bool.not_true, Bool.not_false, Bool.not_eq_true, decide_eq_false_iff_not, Bool.not_eq_eq_eq_not, decide_true, decide_false, ↓reduceIte, if_pos, if_neg, Bool.false_eq_true, and_self, and_true, true_and, List.getElem?_cons_zero, List.getElem?_cons_succ, List.set_cons_zero, List.set_cons_succ, List.length_cons, List.length_nil, List.length_map, List.map_cons, List.map_nil, List.replicate, List.cons_append, List.nil_append, List.append_nil, Option.map_some, Option.map_none, iD, atI_gt, h1, h2]
      refine wp_bind (wp_rng (fun k e => ∃ s, (∀ j, 1 ≤ j → j < k → (1 ≤ gt sw j ∧ gt sw j ≤ 1000000000) ∧ gt sw (j - 1) ≤ gt sw j) ∧ e = [.cold (iD sw), .cold (.int n), s, .no, .no]) ⟨_, fun j a b => by omega, rfl⟩ ?_ ?_)
      · rintro k e hk hk2 ⟨s, hp, rfl⟩
        by_cases hg : (1 ≤ gt sw k ∧ gt sw k ≤ 1000000000) ∧ gt sw (k - 1) ≤ gt sw k
        · simp (disch := omega) only [Q.evs, Nat.reduceAdd, Nat.reduceSub, Nat.reduceLeDiff, Nat.reduceLT, Nat.reduceEqDiff, Int.reducePow, Int.reduceToNat, Int.reduceAdd, Int.reduceMul, Int.reduceNeg, Int.reduceSub, Int.reduceLT, Int.reduceLE, decide_eq_true_eq, Bool.or_false, Bool.or_true, Bool.false_or, Bool.true_or, Bool.not_true, Bool.not_false, Bool.not_eq_true, decide_eq_false_iff_not, Bool.not_eq_eq_eq_not, decide_true, decide_false, ↓reduceIte, if_pos, if_neg, Bool.false_eq_true, and_self, and_true, true_and, List.getElem?_cons_zero, List.getElem?_cons_succ, List.set_cons_zero, List.set_cons_succ, List.length_cons, List.length_nil, List.length_map, List.map_cons, List.map_nil, List.replicate, List.cons_append, List.nil_append, List.append_nil, Option.map_some, Option.map_none, iD, atI_gt]
          refine ⟨_, fun j j1 j2 => ?_, rfl⟩
          by_cases e : j = k
          · subst e; omega
          · exact hp j j1 (by omega)
        · by_cases a1 : 1 ≤ gt sw k <;> by_cases a2 : gt sw k ≤ 1000000000 <;> by_cases a3 : gt sw k < gt sw (k - 1)
          all_goals first | (exfalso; omega) | simp (disch := omega) only [Q.evs, Nat.reduceAdd, Nat.reduceSub, Nat.reduceLeDiff, Nat.reduceLT, Nat.reduceEqDiff, Int.reducePow, Int.reduceToNat, Int.reduceAdd, Int.reduceMul, Int.reduceNeg, Int.reduceSub, Int.reduceLT, Int.reduceLE, decide_eq_true_eq, Bool.or_false, Bool.or_true, Bool.false_or, Bool.true_or, Bool.not_true, Bool.not_false, Bool.not_eq_true, decide_eq_false_iff_not, Bool.not_eq_eq_eq_not, decide_true, decide_false, ↓reduceIte, if_pos, if_neg, Bool.false_eq_true, and_self, and_true, true_and, List.getElem?_cons_zero, List.getElem?_cons_succ, List.set_cons_zero, List.set_cons_succ, List.length_cons, List.length_nil, List.length_map, List.map_cons, List.map_nil, List.replicate, List.cons_append, List.nil_append, List.append_nil, Option.map_some, Option.map_none, iD, atI_gt, a1, a2, a3]
      · rintro e ⟨s, hp, rfl⟩
        rw [if_pos (by omega)] at hp
        simp (disch := omega) only [Q.evs, Nat.reduceAdd, Nat.reduceSub, Nat.reduceLeDiff, Nat.reduceLT, Nat.reduceEqDiff, Int.reducePow, Int.reduceToNat, Int.reduceAdd, Int.reduceMul, Int.reduceNeg, Int.reduceSub, Int.reduceLT, Int.reduceLE, decide_eq_true_eq, Bool.or_false, Bool.or_true, Bool.false_or, Bool.true_or, Bool.not_true, Bool.not_false, Bool.not_eq_true, decide_eq_false_iff_not, Bool.not_eq_eq_eq_not, decide_true, decide_false, ↓reduceIte, if_pos, if_neg, Bool.false_eq_true, and_self, and_true, true_and, List.getElem?_cons_zero, List.getElem?_cons_succ, List.set_cons_zero, List.set_cons_succ, List.length_cons, List.length_nil, List.length_map, List.map_cons, List.map_nil, List.replicate, List.cons_append, List.nil_append, List.append_nil, Option.map_some, Option.map_none]
        refine wp_rng (fun k e => ∃ t u, (∀ a b, 1 ≤ a → a < k → a ≤ b → a + b < n → gt sw (a + b) ≤ gt sw a + gt sw b) ∧ e = [.cold (iD sw), .cold (.int n), s, t, u]) ⟨_, _, fun a b x y => by omega, rfl⟩ ?_ ?_
        · rintro k e hk hk2 ⟨t, u, hq, rfl⟩
          simp (disch := omega) only [Q.evs, Nat.reduceAdd, Nat.reduceSub, Nat.reduceLeDiff, Nat.reduceLT, Nat.reduceEqDiff, Int.reducePow, Int.reduceToNat, Int.reduceAdd, Int.reduceMul, Int.reduceNeg, Int.reduceSub, Int.reduceLT, Int.reduceLE, decide_eq_true_eq, Bool.or_false, Bool.or_true, Bool.false_or, Bool.true_or, Bool.not_true, Bool.not_false, Bool.not_eq_true, decide_eq_false_iff_not, Bool.not_eq_eq_eq_not, decide_true, decide_false, ↓reduceIte, if_pos, if_neg, Bool.false_eq_true, and_self, and_true, true_and, List.getElem?_cons_zero, List.getElem?_cons_succ, List.set_cons_zero, List.set_cons_succ, List.length_cons, List.length_nil, List.length_map, List.map_cons, List.map_nil, List.replicate, List.cons_append, List.nil_append, List.append_nil, Option.map_some, Option.map_none]
          refine wp_rng (fun j e => ∃ u, (∀ b, k ≤ b → b < j → k + b < n → gt sw (k + b) ≤ gt sw k + gt sw b) ∧ e = [.cold (iD sw), .cold (.int n), s, .cold (.int k), u]) ⟨_, fun b x y => by omega, rfl⟩ ?_ ?_
          · rintro j e hj hj2 ⟨u, hr, rfl⟩
            by_cases a1 : gt sw k + gt sw j < gt sw (k + j)
            · simp (disch := omega) only [Q.evs, Nat.reduceAdd, Nat.reduceSub, Nat.reduceLeDiff, Nat.reduceLT, Nat.reduceEqDiff, Int.reducePow, Int.reduceToNat, Int.reduceAdd, Int.reduceMul, Int.reduceNeg, Int.reduceSub, Int.reduceLT, Int.reduceLE, decide_eq_true_eq, Bool.or_false, Bool.or_true, Bool.false_or, Bool.true_or, Bool.not_true, Bool.not_false, Bool.not_eq_true, decide_eq_false_iff_not, Bool.not_eq_eq_eq_not, decide_true, decide_false, ↓reduceIte, if_pos, if_neg, Bool.false_eq_true, and_self, and_true, true_and, List.getElem?_cons_zero, List.getElem?_cons_succ, List.set_cons_zero, List.set_cons_succ, List.length_cons, List.length_nil, List.length_map, List.map_cons, List.map_nil, List.replicate, List.cons_append, List.nil_append, List.append_nil, Option.map_some, Option.map_none, iD, atI_gt, a1]
            · simp (disch := omega) only [Q.evs, Nat.reduceAdd, Nat.reduceSub, Nat.reduceLeDiff, Nat.reduceLT, Nat.reduceEqDiff, Int.reducePow, Int.reduceToNat, Int.reduceAdd, Int.reduceMul, Int.reduceNeg, Int.reduceSub, Int.reduceLT, Int.reduceLE, decide_eq_true_eq, Bool.or_false, Bool.or_true, Bool.false_or, Bool.true_or, Bool.not_true, Bool.not_false, Bool.not_eq_true, decide_eq_false_iff_not, Bool.not_eq_eq_eq_not, decide_true, decide_false, ↓reduceIte, if_pos, if_neg, Bool.false_eq_true, and_self, and_true, true_and, List.getElem?_cons_zero, List.getElem?_cons_succ, List.set_cons_zero, List.set_cons_succ, List.length_cons, List.length_nil, List.length_map, List.map_cons, List.map_nil, List.replicate, List.cons_append, List.nil_append, List.append_nil, Option.map_some, Option.map_none, iD, atI_gt, a1]
              refine ⟨_, fun b x y z => ?_, rfl⟩
              by_cases e : b = j
              · subst e; omega
              · exact hr b x (by omega) z
          · rintro e ⟨u, hr, rfl⟩
            simp (disch := omega) only [Q.evs, Nat.reduceAdd, Nat.reduceSub, Nat.reduceLeDiff, Nat.reduceLT, Nat.reduceEqDiff, Int.reducePow, Int.reduceToNat, Int.reduceAdd, Int.reduceMul, Int.reduceNeg, Int.reduceSub, Int.reduceLT, Int.reduceLE, decide_eq_true_eq, Bool.or_false, Bool.or_true, Bool.false_or, Bool.true_or, Bool.not_true, Bool.not_false, Bool.not_eq_true, decide_eq_false_iff_not, Bool.not_eq_eq_eq_not, decide_true, decide_false, ↓reduceIte, if_pos, if_neg, Bool.false_eq_true, and_self, and_true, true_and, List.getElem?_cons_zero, List.getElem?_cons_succ, List.set_cons_zero, List.set_cons_succ, List.length_cons, List.length_nil, List.length_map, List.map_cons, List.map_nil, List.replicate, List.cons_append, List.nil_append, List.append_nil, Option.map_some, Option.map_none]
            refine ⟨_, _, fun a b x y z w => ?_, rfl⟩
            by_cases e : a = k
            · subst e
              exact hr b z (by split <;> omega) w
            · exact hq a b x (by omega) z w
        · rintro e ⟨t, u, hq, rfl⟩
          rw [if_pos (by omega)] at hq
          exact absurd ⟨h1, h2, hp, fun a b x y z => hq a b x (by omega) y z⟩ h
    · simp (disch := omega) only [Q.evs, Nat.reduceAdd, Nat.reduceSub, Nat.reduceLeDiff, Nat.reduceLT, Nat.reduceEqDiff, Int.reducePow, Int.reduceToNat, Int.reduceAdd, Int.reduceMul, Int.reduceNeg, Int.reduceSub, Int.reduceLT, Int.reduceLE, decide_eq_true_eq, Bool.or_false, Bool.or_true, Bool.false_or, Bool.true_or, Bool.not_true, Bool.not_false, Bool.not_eq_true, decide_eq_false_iff_not, Bool.not_eq_eq_eq_not, decide_true, decide_false, ↓reduceIte, if_pos, if_neg, Bool.false_eq_true, and_self, and_true, true_and, List.getElem?_cons_zero, List.getElem?_cons_succ, List.set_cons_zero, List.set_cons_succ, List.length_cons, List.length_nil, List.length_map, List.map_cons, List.map_nil, List.replicate, List.cons_append, List.nil_append, List.append_nil, Option.map_some, Option.map_none, iD, atI_gt, h1, h2]
  · simp (disch := omega) only [Q.evs, Nat.reduceAdd, Nat.reduceSub, Nat.reduceLeDiff, Nat.reduceLT, Nat.reduceEqDiff, Int.reducePow, Int.reduceToNat, Int.reduceAdd, Int.reduceMul, Int.reduceNeg, Int.reduceSub, Int.reduceLT, Int.reduceLE, decide_eq_true_eq, Bool.or_false, Bool.or_true, Bool.false_or, Bool.true_or, Bool.not_true, Bool.not_false, Bool.not_eq_true, decide_eq_false_iff_not, Bool.not_eq_eq_eq_not, decide_true, decide_false, ↓reduceIte, if_pos, if_neg, Bool.false_eq_true, and_self, and_true, true_and, List.getElem?_cons_zero, List.getElem?_cons_succ, List.set_cons_zero, List.set_cons_succ, List.length_cons, List.length_nil, List.length_map, List.map_cons, List.map_nil, List.replicate, List.cons_append, List.nil_append, List.append_nil, Option.map_some, Option.map_none, iD, h1]

theorem plate_no {zs : List (Int × Int)} {lap skew : Int} {sw : List Int} (hz : zs.length ≤ 1000) (hl : sw.length ≤ 1000)
    (h : ¬ ((1 ≤ zs.length ∧ zs.length ≤ 5) ∧ (∀ p ∈ zs, (1 ≤ p.1 ∧ p.1 ≤ 40) ∧ 1 ≤ p.2 ∧ p.2 ≤ 60) ∧ 2 ≤ (cnt zs).length ∧ (cnt zs).length ≤ 120) ∨
      ¬ ((1 ≤ lap ∧ lap ≤ 1000000000) ∧ (0 ≤ skew ∧ skew < lap) ∧ ∀ c ∈ cnt zs, lap % c ≤ 0) ∨
      ¬ ((sw.length : Int) = (cnt zs).length ∧ gt sw 0 = 0 ∧ (∀ k, 1 ≤ k → k < ((cnt zs).length : Int) → (1 ≤ gt sw k ∧ gt sw k ≤ 1000000000) ∧ gt sw (k - 1) ≤ gt sw k) ∧ ∀ a b, 1 ≤ a → a ≤ b → a + b < ((cnt zs).length : Int) → gt sw (a + b) ≤ gt sw a + gt sw b)) :
    Ev.Plate_init [.lst (zs.map zp), .int lap, .int skew, iD sw] = .exc 2 [] := by
  refine fnIB_wpP (fun r => r = .exc 2 []) ?_
  unfold Ev.b_Plate_init
  have f := flat_iD (cnt zs)
  have a := all_iD sw
  by_cases h1 : ZR zs
  · have r := ring_counts_yes h1
    have hc : ∀ c ∈ cnt zs, 1 ≤ c := fun c hc => by
      obtain ⟨p, hp, rfl⟩ := cnt_mem hc
      exact (h1.z p hp).2.1
    have c2 := h1.two
    have c3 := h1.few
    by_cases h2 : (1 ≤ lap ∧ lap ≤ 1000000000) ∧ (0 ≤ skew ∧ skew < lap) ∧ ∀ c ∈ cnt zs, lap % c ≤ 0
    · have l : Ev.check_lap [iD (cnt zs), .int lap, .int skew] = .ok .non .cold := check_lap_yes hc h2
      have w := check_swing_no (n := (cnt zs).length) (sw := sw) (by omega) (by omega) hl (fun h3 => by
        rcases h with h | h | h
        · exact h ⟨⟨h1.lo, h1.hi⟩, h1.z, h1.two, h1.few⟩
        · exact h h2
        · exact h h3)
      unfold iD at *
      simp (disch := omega) only [Q.evs, Nat.reduceAdd, Nat.reduceSub, Nat.reduceLeDiff, Nat.reduceLT, Nat.reduceEqDiff, Int.reducePow, Int.reduceToNat, Int.reduceAdd, Int.reduceMul, Int.reduceNeg, Int.reduceSub, Int.reduceLT, Int.reduceLE, decide_eq_true_eq, Bool.or_false, Bool.or_true, Bool.false_or, Bool.true_or, Bool.not_true, Bool.not_false, Bool.not_eq_true, decide_eq_false_iff_not, Bool.not_eq_eq_eq_not, decide_true, decide_false, ↓reduceIte, if_pos, if_neg, Bool.false_eq_true, and_self, and_true, true_and, List.getElem?_cons_zero, List.getElem?_cons_succ, List.set_cons_zero, List.set_cons_succ, List.length_cons, List.length_nil, List.length_map, List.map_cons, List.map_nil, List.replicate, List.cons_append, List.nil_append, List.append_nil, Option.map_some, Option.map_none, r, l, w, f, a, List.all_nil]
    · have l := check_lap_no hc h2
      unfold iD at *
      simp (disch := omega) only [Q.evs, Nat.reduceAdd, Nat.reduceSub, Nat.reduceLeDiff, Nat.reduceLT, Nat.reduceEqDiff, Int.reducePow, Int.reduceToNat, Int.reduceAdd, Int.reduceMul, Int.reduceNeg, Int.reduceSub, Int.reduceLT, Int.reduceLE, decide_eq_true_eq, Bool.or_false, Bool.or_true, Bool.false_or, Bool.true_or, Bool.not_true, Bool.not_false, Bool.not_eq_true, decide_eq_false_iff_not, Bool.not_eq_eq_eq_not, decide_true, decide_false, ↓reduceIte, if_pos, if_neg, Bool.false_eq_true, and_self, and_true, true_and, List.getElem?_cons_zero, List.getElem?_cons_succ, List.set_cons_zero, List.set_cons_succ, List.length_cons, List.length_nil, List.length_map, List.map_cons, List.map_nil, List.replicate, List.cons_append, List.nil_append, List.append_nil, Option.map_some, Option.map_none, r, l, f, a, List.all_nil]
  · have r := ring_counts_no hz (fun h3 => h1 ⟨h3.1.1, h3.1.2, h3.2.1, h3.2.2.1, h3.2.2.2⟩)
    unfold iD at *
    simp (disch := omega) only [Q.evs, Nat.reduceAdd, Nat.reduceSub, Nat.reduceLeDiff, Nat.reduceLT, Nat.reduceEqDiff, Int.reducePow, Int.reduceToNat, Int.reduceAdd, Int.reduceMul, Int.reduceNeg, Int.reduceSub, Int.reduceLT, Int.reduceLE, decide_eq_true_eq, Bool.or_false, Bool.or_true, Bool.false_or, Bool.true_or, Bool.not_true, Bool.not_false, Bool.not_eq_true, decide_eq_false_iff_not, Bool.not_eq_eq_eq_not, decide_true, decide_false, ↓reduceIte, if_pos, if_neg, Bool.false_eq_true, and_self, and_true, true_and, List.getElem?_cons_zero, List.getElem?_cons_succ, List.set_cons_zero, List.set_cons_succ, List.length_cons, List.length_nil, List.length_map, List.map_cons, List.map_nil, List.replicate, List.cons_append, List.nil_append, List.append_nil, Option.map_some, Option.map_none, r, f, a, List.all_nil]
theorem refused_ok {z l s w : D} (h : Ev.Plate_init [z, l, s, w] = .exc 2 []) : Ev.l_refused [z, l, s, w] = .ok (.bl true) .cold := by
  refine fn_wp ?_
  unfold Ev.b_l_refused
  have q := eq_self' (d := .lst [.bl true, .bl true, .bl false, .bl false, .bl false, .bl false, .bl false, .bl false, .bl false, .bl false]) rfl (by decide)
  simp (disch := omega) only [Q.evs, Nat.reduceAdd, Nat.reduceSub, Nat.reduceLeDiff, Nat.reduceLT, Nat.reduceEqDiff, Int.reducePow, Int.reduceToNat, Int.reduceAdd, Int.reduceMul, Int.reduceNeg, Int.reduceSub, Int.reduceLT, Int.reduceLE, decide_eq_true_eq, Bool.or_false, Bool.or_true, Bool.false_or, Bool.true_or, Bool.not_true, Bool.not_false, Bool.not_eq_true, decide_eq_false_iff_not, Bool.not_eq_eq_eq_not, decide_true, decide_false, ↓reduceIte, if_pos, if_neg, Bool.false_eq_true, and_self, and_true, true_and, List.getElem?_cons_zero, List.getElem?_cons_succ, List.set_cons_zero, List.set_cons_succ, List.length_cons, List.length_nil, List.length_map, List.map_cons, List.map_nil, List.replicate, List.cons_append, List.nil_append, List.append_nil, Option.map_some, Option.map_none, h, List.lookup_cons_self, repD_one, q]
def gz (zs : List (Int × Int)) (k : Int) : Int × Int := zs.getD k.toNat (1, 1)
theorem atI_gz {zs : List (Int × Int)} {i : Int} (h0 : 0 ≤ i) (h1 : i < zs.length) : atI (zs.map zp) i = some (zp (gz zs i)) := by
  rw [atI_map _ h0 h1, gz, List.getD_eq_getElem?_getD, List.getElem?_eq_getElem (by omega)]; rfl
theorem counts_gen {zs : List (Int × Int)} (hz : ∀ p ∈ zs, 0 ≤ p.1 ∧ p.1 ≤ 40) (hl : zs.length ≤ 10) : Ev.l_counts [.lst (zs.map zp)] = .ok (iD (cnt zs)) .fresh := by
  refine fn_wp ?_
  unfold Ev.b_l_counts
  simp (disch := omega) only [Q.evs, Nat.reduceAdd, Nat.reduceSub, Nat.reduceLeDiff, Nat.reduceLT, Nat.reduceEqDiff, Int.reducePow, Int.reduceToNat, Int.reduceAdd, Int.reduceMul, Int.reduceNeg, Int.reduceSub, Int.reduceLT, Int.reduceLE, decide_eq_true_eq, Bool.or_false, Bool.or_true, Bool.false_or, Bool.true_or, Bool.not_true, Bool.not_false, Bool.not_eq_true, decide_eq_false_iff_not, Bool.not_eq_eq_eq_not, decide_true, decide_false, ↓reduceIte, if_pos, if_neg, Bool.false_eq_true, and_self, and_true, true_and, List.getElem?_cons_zero, List.getElem?_cons_succ, List.set_cons_zero, List.set_cons_succ, List.length_cons, List.length_nil, List.length_map, List.map_cons, List.map_nil, List.replicate, List.cons_append, List.nil_append, List.append_nil, Option.map_some, Option.map_none]
  refine wp_bind (wp_list (fun pre e => ∃ s t, (cnt pre).length ≤ 40 * pre.length ∧ e = [.cold (.lst (zs.map zp)), .hot ((cnt pre).map .int), s, t]) ⟨_, _, by simp [cnt], rfl⟩ ?_ ?_)
  · rintro pre x suf e hx ⟨s, t, hl', rfl⟩
    have hb := hz x (mem_of_cut hx)
    have hpl : pre.length ≤ zs.length := by rw [hx]; simp
    refine ⟨_, rfl, ?_⟩
    have e2 : List.length [D.int x.2] = 1 := rfl
    simp (disch := omega) only [Q.evs, Nat.reduceAdd, Nat.reduceSub, Nat.reduceLeDiff, Nat.reduceLT, Nat.reduceEqDiff, Int.reducePow, Int.reduceToNat, Int.reduceAdd, Int.reduceMul, Int.reduceNeg, Int.reduceSub, Int.reduceLT, Int.reduceLE, decide_eq_true_eq, Bool.or_false, Bool.or_true, Bool.false_or, Bool.true_or, Bool.not_true, Bool.not_false, Bool.not_eq_true, decide_eq_false_iff_not, Bool.not_eq_eq_eq_not, decide_true, decide_false, ↓reduceIte, if_pos, if_neg, Bool.false_eq_true, and_self, and_true, true_and, List.getElem?_cons_zero, List.getElem?_cons_succ, List.set_cons_zero, List.set_cons_succ, List.length_cons, List.length_nil, List.length_map, List.map_cons, List.map_nil, List.replicate, List.cons_append, List.nil_append, List.append_nil, Option.map_some, Option.map_none, zp, repx, repD_one, List.length_replicate, again]
    refine ⟨.cold (.int x.1), .cold (.int x.2), ?_, ?_⟩
    · rw [cnt_snoc]; simp; omega
    · simp [cnt_snoc]
  · rintro e ⟨s, t, hl', rfl⟩
    simp (disch := omega) only [Q.evs, Nat.reduceAdd, Nat.reduceSub, Nat.reduceLeDiff, Nat.reduceLT, Nat.reduceEqDiff, Int.reducePow, Int.reduceToNat, Int.reduceAdd, Int.reduceMul, Int.reduceNeg, Int.reduceSub, Int.reduceLT, Int.reduceLE, decide_eq_true_eq, Bool.or_false, Bool.or_true, Bool.false_or, Bool.true_or, Bool.not_true, Bool.not_false, Bool.not_eq_true, decide_eq_false_iff_not, Bool.not_eq_eq_eq_not, decide_true, decide_false, ↓reduceIte, if_pos, if_neg, Bool.false_eq_true, and_self, and_true, true_and, List.getElem?_cons_zero, List.getElem?_cons_succ, List.set_cons_zero, List.set_cons_succ, List.length_cons, List.length_nil, List.length_map, List.map_cons, List.map_nil, List.replicate, List.cons_append, List.nil_append, List.append_nil, Option.map_some, Option.map_none, iD]
theorem cnt_ones : ∀ n, (cnt (List.replicate n (1, 1))).length = n := by
  intro n
  induction n with
  | zero => rfl
  | succ n ih => simp [cnt] at ih ⊢
theorem zones_bad_ok {zs : List (Int × Int)} (hz : ZOk zs) {f k : Int} (f0 : 0 ≤ f) (f1 : f ≤ 17) (k0 : 0 ≤ k) (k1 : k < zs.length) :
    ∃ ys, Ev.l_zones_bad [.lst (zs.map zp), .int f, .int k] = .ok (.lst (ys.map zp)) .fresh ∧ ys.length ≤ 10 ∧ (8 ≤ f → ys = zs) ∧ (f ≤ 7 → ¬ ((1 ≤ ys.length ∧ ys.length ≤ 5) ∧ (∀ p ∈ ys, (1 ≤ p.1 ∧ p.1 ≤ 40) ∧ 1 ≤ p.2 ∧ p.2 ≤ 60) ∧ 2 ≤ (cnt ys).length ∧ (cnt ys).length ≤ 120)) ∧
      (f = 6 ∨ f = 7 → (∀ p ∈ ys, 0 ≤ p.1 ∧ p.1 ≤ 40) ∧ (cnt ys).length ≤ 200 ∧ 1 ≤ (cnt ys).length) := by
  refine fn_wpP (fun r => ∃ ys, r = .ok (.lst (ys.map zp)) .fresh ∧ ys.length ≤ 10 ∧ (8 ≤ f → ys = zs) ∧ (f ≤ 7 → ¬ ((1 ≤ ys.length ∧ ys.length ≤ 5) ∧ (∀ p ∈ ys, (1 ≤ p.1 ∧ p.1 ≤ 40) ∧ 1 ≤ p.2 ∧ p.2 ≤ 60) ∧ 2 ≤ (cnt ys).length ∧ (cnt ys).length ≤ 120)) ∧
      (f = 6 ∨ f = 7 → (∀ p ∈ ys, 0 ≤ p.1 ∧ p.1 ≤ 40) ∧ (cnt ys).length ≤ 200 ∧ 1 ≤ (cnt ys).length)) ?_
  unfold Ev.b_l_zones_bad
  have l1 := hz.lo
  have l5 := hz.hi
  have set_in : ∀ y : Int × Int, y ∈ zs.set k.toNat y := fun y => List.mem_of_getElem? (i := k.toNat) (by rw [List.getElem?_set_self (by omega)])
  have hf : f = 0 ∨ f = 1 ∨ f = 2 ∨ f = 3 ∨ f = 4 ∨ f = 5 ∨ f = 6 ∨ f = 7 ∨ 8 ≤ f := by omega
  rcases hf with rfl | rfl | rfl | rfl | rfl | rfl | rfl | rfl | hf
  · simp (disch := omega) only [Q.evs, Nat.reduceAdd, Nat.reduceSub, Nat.reduceLeDiff, Nat.reduceLT, Nat.reduceEqDiff, Int.reducePow, Int.reduceToNat, Int.reduceAdd, Int.reduceMul, Int.reduceNeg, Int.reduceSub, Int.reduceLT, Int.reduceLE, decide_eq_true_eq, Bool.or_false, Bool.or_true, Bool.false_or, Bool.true_or, Bool.not_true, Bool.not_false, Bool.not_eq_true, decide_eq_false_iff_not, Bool.not_eq_eq_eq_not, decide_true, decide_false, ↓reduceIte, if_pos, if_neg, Bool.false_eq_true, and_self, and_true, true_and, List.getElem?_cons_zero, List.getElem?_cons_succ, List.set_cons_zero, List.set_cons_succ, List.length_cons, List.length_nil, List.length_map, List.map_cons, List.map_nil, List.replicate, List.cons_append, List.nil_append, List.append_nil, Option.map_some, Option.map_none]
    exact ⟨[], rfl, by simp, fun h => absurd h (by decide), fun _ h => by simp at h, fun h => absurd h (by decide)⟩
  · simp (disch := omega) only [Q.evs, Nat.reduceAdd, Nat.reduceSub, Nat.reduceLeDiff, Nat.reduceLT, Nat.reduceEqDiff, Int.reducePow, Int.reduceToNat, Int.reduceAdd, Int.reduceMul, Int.reduceNeg, Int.reduceSub, Int.reduceLT, Int.reduceLE, decide_eq_true_eq, Bool.or_false, Bool.or_true, Bool.false_or, Bool.true_or, Bool.not_true, Bool.not_false, Bool.not_eq_true, decide_eq_false_iff_not, Bool.not_eq_eq_eq_not, decide_true, decide_false, ↓reduceIte, if_pos, if_neg, Bool.false_eq_true, and_self, and_true, true_and, List.getElem?_cons_zero, List.getElem?_cons_succ, List.set_cons_zero, List.set_cons_succ, List.length_cons, List.length_nil, List.length_map, List.map_cons, List.map_nil, List.replicate, List.cons_append, List.nil_append, List.append_nil, Option.map_some, Option.map_none, repD_one, List.length_replicate]
    refine ⟨zs ++ List.replicate (6 - zs.length) (1, 1), ?_, by simp; omega, fun h => absurd h (by decide), fun _ h => by simp at h; omega, fun h => absurd h (by decide)⟩
    simp [zp]
  · simp (disch := omega) only [Q.evs, Nat.reduceAdd, Nat.reduceSub, Nat.reduceLeDiff, Nat.reduceLT, Nat.reduceEqDiff, Int.reducePow, Int.reduceToNat, Int.reduceAdd, Int.reduceMul, Int.reduceNeg, Int.reduceSub, Int.reduceLT, Int.reduceLE, decide_eq_true_eq, Bool.or_false, Bool.or_true, Bool.false_or, Bool.true_or, Bool.not_true, Bool.not_false, Bool.not_eq_true, decide_eq_false_iff_not, Bool.not_eq_eq_eq_not, decide_true, decide_false, ↓reduceIte, if_pos, if_neg, Bool.false_eq_true, and_self, and_true, true_and, List.getElem?_cons_zero, List.getElem?_cons_succ, List.set_cons_zero, List.set_cons_succ, List.length_cons, List.length_nil, List.length_map, List.map_cons, List.map_nil, List.replicate, List.cons_append, List.nil_append, List.append_nil, Option.map_some, Option.map_none, atI_gz, zp, ixN_of]
    refine ⟨zs.set k.toNat (0, (gz zs k).2), by simp [zp], by simp; omega, fun h => absurd h (by decide), fun _ h => by have := h.2.1 _ (set_in _); simp at this, fun h => absurd h (by decide)⟩
  · simp (disch := omega) only [Q.evs, Nat.reduceAdd, Nat.reduceSub, Nat.reduceLeDiff, Nat.reduceLT, Nat.reduceEqDiff, Int.reducePow, Int.reduceToNat, Int.reduceAdd, Int.reduceMul, Int.reduceNeg, Int.reduceSub, Int.reduceLT, Int.reduceLE, decide_eq_true_eq, Bool.or_false, Bool.or_true, Bool.false_or, Bool.true_or, Bool.not_true, Bool.not_false, Bool.not_eq_true, decide_eq_false_iff_not, Bool.not_eq_eq_eq_not, decide_true, decide_false, ↓reduceIte, if_pos, if_neg, Bool.false_eq_true, and_self, and_true, true_and, List.getElem?_cons_zero, List.getElem?_cons_succ, List.set_cons_zero, List.set_cons_succ, List.length_cons, List.length_nil, List.length_map, List.map_cons, List.map_nil, List.replicate, List.cons_append, List.nil_append, List.append_nil, Option.map_some, Option.map_none, atI_gz, zp, ixN_of]
    refine ⟨zs.set k.toNat (41, (gz zs k).2), by simp [zp], by simp; omega, fun h => absurd h (by decide), fun _ h => by have := h.2.1 _ (set_in _); simp at this, fun h => absurd h (by decide)⟩
  · simp (disch := omega) only [Q.evs, Nat.reduceAdd, Nat.reduceSub, Nat.reduceLeDiff, Nat.reduceLT, Nat.reduceEqDiff, Int.reducePow, Int.reduceToNat, Int.reduceAdd, Int.reduceMul, Int.reduceNeg, Int.reduceSub, Int.reduceLT, Int.reduceLE, decide_eq_true_eq, Bool.or_false, Bool.or_true, Bool.false_or, Bool.true_or, Bool.not_true, Bool.not_false, Bool.not_eq_true, decide_eq_false_iff_not, Bool.not_eq_eq_eq_not, decide_true, decide_false, ↓reduceIte, if_pos, if_neg, Bool.false_eq_true, and_self, and_true, true_and, List.getElem?_cons_zero, List.getElem?_cons_succ, List.set_cons_zero, List.set_cons_succ, List.length_cons, List.length_nil, List.length_map, List.map_cons, List.map_nil, List.replicate, List.cons_append, List.nil_append, List.append_nil, Option.map_some, Option.map_none, atI_gz, zp, ixN_of]
    refine ⟨zs.set k.toNat ((gz zs k).1, 0), by simp [zp], by simp; omega, fun h => absurd h (by decide), fun _ h => by have := h.2.1 _ (set_in _); simp at this, fun h => absurd h (by decide)⟩
  · simp (disch := omega) only [Q.evs, Nat.reduceAdd, Nat.reduceSub, Nat.reduceLeDiff, Nat.reduceLT, Nat.reduceEqDiff, Int.reducePow, Int.reduceToNat, Int.reduceAdd, Int.reduceMul, Int.reduceNeg, Int.reduceSub, Int.reduceLT, Int.reduceLE, decide_eq_true_eq, Bool.or_false, Bool.or_true, Bool.false_or, Bool.true_or, Bool.not_true, Bool.not_false, Bool.not_eq_true, decide_eq_false_iff_not, Bool.not_eq_eq_eq_not, decide_true, decide_false, ↓reduceIte, if_pos, if_neg, Bool.false_eq_true, and_self, and_true, true_and, List.getElem?_cons_zero, List.getElem?_cons_succ, List.set_cons_zero, List.set_cons_succ, List.length_cons, List.length_nil, List.length_map, List.map_cons, List.map_nil, List.replicate, List.cons_append, List.nil_append, List.append_nil, Option.map_some, Option.map_none, atI_gz, zp, ixN_of]
    refine ⟨zs.set k.toNat ((gz zs k).1, 61), by simp [zp], by simp; omega, fun h => absurd h (by decide), fun _ h => by have := h.2.1 _ (set_in _); simp at this, fun h => absurd h (by decide)⟩
  · simp (disch := omega) only [Q.evs, Nat.reduceAdd, Nat.reduceSub, Nat.reduceLeDiff, Nat.reduceLT, Nat.reduceEqDiff, Int.reducePow, Int.reduceToNat, Int.reduceAdd, Int.reduceMul, Int.reduceNeg, Int.reduceSub, Int.reduceLT, Int.reduceLE, decide_eq_true_eq, Bool.or_false, Bool.or_true, Bool.false_or, Bool.true_or, Bool.not_true, Bool.not_false, Bool.not_eq_true, decide_eq_false_iff_not, Bool.not_eq_eq_eq_not, decide_true, decide_false, ↓reduceIte, if_pos, if_neg, Bool.false_eq_true, and_self, and_true, true_and, List.getElem?_cons_zero, List.getElem?_cons_succ, List.set_cons_zero, List.set_cons_succ, List.length_cons, List.length_nil, List.length_map, List.map_cons, List.map_nil, List.replicate, List.cons_append, List.nil_append, List.append_nil, Option.map_some, Option.map_none, atI_gz, zp]
    refine ⟨[(1, (gz zs 0).2)], rfl, by simp, fun h => absurd h (by decide), fun _ h => by simp [cnt] at h, fun _ => by simp [cnt]⟩
  · simp (disch := omega) only [Q.evs, Nat.reduceAdd, Nat.reduceSub, Nat.reduceLeDiff, Nat.reduceLT, Nat.reduceEqDiff, Int.reducePow, Int.reduceToNat, Int.reduceAdd, Int.reduceMul, Int.reduceNeg, Int.reduceSub, Int.reduceLT, Int.reduceLE, decide_eq_true_eq, Bool.or_false, Bool.or_true, Bool.false_or, Bool.true_or, Bool.not_true, Bool.not_false, Bool.not_eq_true, decide_eq_false_iff_not, Bool.not_eq_eq_eq_not, decide_true, decide_false, ↓reduceIte, if_pos, if_neg, Bool.false_eq_true, and_self, and_true, true_and, List.getElem?_cons_zero, List.getElem?_cons_succ, List.set_cons_zero, List.set_cons_succ, List.length_cons, List.length_nil, List.length_map, List.map_cons, List.map_nil, List.replicate, List.cons_append, List.nil_append, List.append_nil, Option.map_some, Option.map_none]
    refine ⟨[(40, 1), (40, 1), (40, 1), (1, 1)], rfl, by simp, fun h => absurd h (by decide), fun _ h => by simp [cnt] at h, fun _ => by simp [cnt]⟩
  · simp (disch := omega) only [Q.evs, Nat.reduceAdd, Nat.reduceSub, Nat.reduceLeDiff, Nat.reduceLT, Nat.reduceEqDiff, Int.reducePow, Int.reduceToNat, Int.reduceAdd, Int.reduceMul, Int.reduceNeg, Int.reduceSub, Int.reduceLT, Int.reduceLE, decide_eq_true_eq, Bool.or_false, Bool.or_true, Bool.false_or, Bool.true_or, Bool.not_true, Bool.not_false, Bool.not_eq_true, decide_eq_false_iff_not, Bool.not_eq_eq_eq_not, decide_true, decide_false, ↓reduceIte, if_pos, if_neg, Bool.false_eq_true, and_self, and_true, true_and, List.getElem?_cons_zero, List.getElem?_cons_succ, List.set_cons_zero, List.set_cons_succ, List.length_cons, List.length_nil, List.length_map, List.map_cons, List.map_nil, List.replicate, List.cons_append, List.nil_append, List.append_nil, Option.map_some, Option.map_none]
    exact ⟨zs, rfl, by omega, fun _ => rfl, fun h => absurd h (by omega), fun h => absurd h (by omega)⟩
theorem gt_set {xs : List Int} {k v : Int} (h0 : 0 ≤ k) (h1 : k < xs.length) : gt (xs.set k.toNat v) k = v := by
  unfold gt; rw [List.getD_eq_getElem?_getD, List.getElem?_set_self (by omega)]; rfl
theorem gt_set_ne {xs : List Int} {k j v : Int} (h0 : 0 ≤ k) (h2 : 0 ≤ j) (h : k ≠ j) : gt (xs.set k.toNat v) j = gt xs j := by
  unfold gt; rw [List.getD_eq_getElem?_getD, List.getD_eq_getElem?_getD, List.getElem?_set_ne (by omega)]
theorem gt_take {xs ys : List Int} {m : Nat} {j : Int} (h0 : 0 ≤ j) (h1 : j < m) (h2 : m ≤ xs.length) : gt (xs.take m ++ ys) j = gt xs j := by
  unfold gt
  rw [List.getD_eq_getElem?_getD, List.getD_eq_getElem?_getD, List.getElem?_append_left (by simp; omega), List.getElem?_take_of_lt (by omega)]
def GoodS (n : Int) (ys : List Int) : Prop := (ys.length : Int) = n ∧ gt ys 0 = 0 ∧ (∀ k, 1 ≤ k → k < n → (1 ≤ gt ys k ∧ gt ys k ≤ 1000000000) ∧ gt ys (k - 1) ≤ gt ys k) ∧ ∀ a b, 1 ≤ a → a ≤ b → a + b < n → gt ys (a + b) ≤ gt ys a + gt ys b
theorem cut_head {α : Type} (xs : List α) (m : Int) (h0 : 0 ≤ m) (h1 : m ≤ xs.length) : cut xs none (some m) = xs.take m.toNat := by
  simp [cut, sIx, show ¬ m < 0 by omega, show min m.toNat xs.length = m.toNat by omega]
theorem cut_tail {α : Type} (xs : List α) (m : Int) (h0 : 0 ≤ m) (h1 : m ≤ xs.length) : cut xs (some m) none = xs.drop m.toNat := by
  simp [cut, sIx, show ¬ m < 0 by omega, show min m.toNat xs.length = m.toNat by omega]
  rw [List.take_of_length_le (by simp)]
theorem cut_map {α β : Type} (f : α → β) (xs : List α) (l h : Option Int) : cut (xs.map f) l h = (cut xs l h).map f := by
  simp [cut, List.map_take, List.map_drop]
theorem swing_bad_ok {sw : List Int} {n : Int} (hw : SwOk n sw) (n2 : 2 ≤ n) (n3 : n ≤ 200) {f k : Int} (f0 : 0 ≤ f) (f1 : f ≤ 17) (f2 : f = 17 → 3 ≤ n) (k0 : 0 ≤ k) :
    ∃ ys, Ev.l_swing_bad [iD sw, .int f, .int k] = .ok (iD ys) .fresh ∧ ys.length ≤ 1000 ∧ (f ≤ 11 → ys = sw) ∧ (12 ≤ f → ¬ GoodS n ys) := by
  refine fn_wpP (fun r => ∃ ys, r = .ok (iD ys) .fresh ∧ ys.length ≤ 1000 ∧ (f ≤ 11 → ys = sw) ∧ (12 ≤ f → ¬ GoodS n ys)) ?_
  unfold Ev.b_l_swing_bad
  have wl := hw.len
  have hf : f ≤ 11 ∨ f = 12 ∨ f = 13 ∨ f = 14 ∨ f = 15 ∨ f = 16 ∨ f = 17 := by omega
  rcases hf with hf | rfl | rfl | rfl | rfl | rfl | rfl
  · simp (disch := omega) only [Q.evs, Nat.reduceAdd, Nat.reduceSub, Nat.reduceLeDiff, Nat.reduceLT, Nat.reduceEqDiff, Int.reducePow, Int.reduceToNat, Int.reduceAdd, Int.reduceMul, Int.reduceNeg, Int.reduceSub, Int.reduceLT, Int.reduceLE, decide_eq_true_eq, Bool.or_false, Bool.or_true, Bool.false_or, Bool.true_or, Bool.not_true, Bool.not_false, Bool.not_eq_true, decide_eq_false_iff_not, Bool.not_eq_eq_eq_not, decide_true, decide_false, ↓reduceIte, if_pos, if_neg, Bool.false_eq_true, and_self, and_true, true_and, List.getElem?_cons_zero, List.getElem?_cons_succ, List.set_cons_zero, List.set_cons_succ, List.length_cons, List.length_nil, List.length_map, List.map_cons, List.map_nil, List.replicate, List.cons_append, List.nil_append, List.append_nil, Option.map_some, Option.map_none, iD]
    exact ⟨sw, rfl, by omega, fun _ => rfl, fun h => absurd h (by omega)⟩
  · have c : cut sw none (some (-1)) = sw.take (sw.length - 1) := by
      simp [cut, sIx]; congr 1; omega
    simp (disch := omega) only [Q.evs, Nat.reduceAdd, Nat.reduceSub, Nat.reduceLeDiff, Nat.reduceLT, Nat.reduceEqDiff, Int.reducePow, Int.reduceToNat, Int.reduceAdd, Int.reduceMul, Int.reduceNeg, Int.reduceSub, Int.reduceLT, Int.reduceLE, decide_eq_true_eq, Bool.or_false, Bool.or_true, Bool.false_or, Bool.true_or, Bool.not_true, Bool.not_false, Bool.not_eq_true, decide_eq_false_iff_not, Bool.not_eq_eq_eq_not, decide_true, decide_false, ↓reduceIte, if_pos, if_neg, Bool.false_eq_true, and_self, and_true, true_and, List.getElem?_cons_zero, List.getElem?_cons_succ, List.set_cons_zero, List.set_cons_succ, List.length_cons, List.length_nil, List.length_map, List.map_cons, List.map_nil, List.replicate, List.cons_append, List.nil_append, List.append_nil, Option.map_some, Option.map_none, iD, cut_map, c]
    exact ⟨_, rfl, by simp; omega, fun h => absurd h (by decide), fun _ h => by have := h.1; simp at this; omega⟩
  · simp (disch := omega) only [Q.evs, Nat.reduceAdd, Nat.reduceSub, Nat.reduceLeDiff, Nat.reduceLT, Nat.reduceEqDiff, Int.reducePow, Int.reduceToNat, Int.reduceAdd, Int.reduceMul, Int.reduceNeg, Int.reduceSub, Int.reduceLT, Int.reduceLE, decide_eq_true_eq, Bool.or_false, Bool.or_true, Bool.false_or, Bool.true_or, Bool.not_true, Bool.not_false, Bool.not_eq_true, decide_eq_false_iff_not, Bool.not_eq_eq_eq_not, decide_true, decide_false, ↓reduceIte, if_pos, if_neg, Bool.false_eq_true, and_self, and_true, true_and, List.getElem?_cons_zero, List.getElem?_cons_succ, List.set_cons_zero, List.set_cons_succ, List.length_cons, List.length_nil, List.length_map, List.map_cons, List.map_nil, List.replicate, List.cons_append, List.nil_append, List.append_nil, Option.map_some, Option.map_none, iD, atI_neg]
    refine ⟨sw ++ [gt sw (sw.length - 1)], by simp [iD], by simp; omega, fun h => absurd h (by decide), fun _ h => by have := h.1; simp at this; omega⟩
  · have ix := ixN_of (n := sw.length) (i := 0) (by omega) (by omega)
    simp (disch := omega) only [Q.evs, Nat.reduceAdd, Nat.reduceSub, Nat.reduceLeDiff, Nat.reduceLT, Nat.reduceEqDiff, Int.reducePow, Int.reduceToNat, Int.reduceAdd, Int.reduceMul, Int.reduceNeg, Int.reduceSub, Int.reduceLT, Int.reduceLE, decide_eq_true_eq, Bool.or_false, Bool.or_true, Bool.false_or, Bool.true_or, Bool.not_true, Bool.not_false, Bool.not_eq_true, decide_eq_false_iff_not, Bool.not_eq_eq_eq_not, decide_true, decide_false, ↓reduceIte, if_pos, if_neg, Bool.false_eq_true, and_self, and_true, true_and, List.getElem?_cons_zero, List.getElem?_cons_succ, List.set_cons_zero, List.set_cons_succ, List.length_cons, List.length_nil, List.length_map, List.map_cons, List.map_nil, List.replicate, List.cons_append, List.nil_append, List.append_nil, Option.map_some, Option.map_none, iD, ix]
    refine ⟨sw.set (0 : Int).toNat 1, by simp [iD], by simp; omega, fun h => absurd h (by decide), fun _ h => ?_⟩
    have := h.2.1
    rw [gt_set (by omega) (by omega)] at this
    omega
  · have m0 := Int.emod_nonneg k (by omega : n - 1 ≠ 0)
    have m1 := Int.emod_lt_of_pos k (by omega : 0 < n - 1)
    have e1 : ((sw.length : Nat) : Int) - 1 = n - 1 := by omega
    simp (disch := omega) only [Q.evs, Nat.reduceAdd, Nat.reduceSub, Nat.reduceLeDiff, Nat.reduceLT, Nat.reduceEqDiff, Int.reducePow, Int.reduceToNat, Int.reduceAdd, Int.reduceMul, Int.reduceNeg, Int.reduceSub, Int.reduceLT, Int.reduceLE, decide_eq_true_eq, Bool.or_false, Bool.or_true, Bool.false_or, Bool.true_or, Bool.not_true, Bool.not_false, Bool.not_eq_true, decide_eq_false_iff_not, Bool.not_eq_eq_eq_not, decide_true, decide_false, ↓reduceIte, if_pos, if_neg, Bool.false_eq_true, and_self, and_true, true_and, List.getElem?_cons_zero, List.getElem?_cons_succ, List.set_cons_zero, List.set_cons_succ, List.length_cons, List.length_nil, List.length_map, List.map_cons, List.map_nil, List.replicate, List.cons_append, List.nil_append, List.append_nil, Option.map_some, Option.map_none, iD, e1, ixN_of]
    refine ⟨sw.set (1 + k % (n - 1)).toNat 0, by simp [iD], by simp; omega, fun h => absurd h (by decide), fun _ h => ?_⟩
    have := (h.2.2.1 (1 + k % (n - 1)) (by omega) (by omega)).1.1
    rw [gt_set (by omega) (by omega)] at this
    omega
  · by_cases h2 : n = 2
    · simp (disch := omega) only [Q.evs, Nat.reduceAdd, Nat.reduceSub, Nat.reduceLeDiff, Nat.reduceLT, Nat.reduceEqDiff, Int.reducePow, Int.reduceToNat, Int.reduceAdd, Int.reduceMul, Int.reduceNeg, Int.reduceSub, Int.reduceLT, Int.reduceLE, decide_eq_true_eq, Bool.or_false, Bool.or_true, Bool.false_or, Bool.true_or, Bool.not_true, Bool.not_false, Bool.not_eq_true, decide_eq_false_iff_not, Bool.not_eq_eq_eq_not, decide_true, decide_false, ↓reduceIte, if_pos, if_neg, Bool.false_eq_true, and_self, and_true, true_and, List.getElem?_cons_zero, List.getElem?_cons_succ, List.set_cons_zero, List.set_cons_succ, List.length_cons, List.length_nil, List.length_map, List.map_cons, List.map_nil, List.replicate, List.cons_append, List.nil_append, List.append_nil, Option.map_some, Option.map_none, iD, ixN_of]
      refine ⟨sw.set (1 : Int).toNat 1000000001, by simp [iD], by simp; omega, fun h => absurd h (by decide), fun _ h => ?_⟩
      have := (h.2.2.1 1 (by omega) (by omega)).1.2
      rw [gt_set (by omega) (by omega)] at this
      omega
    · have m0 := Int.emod_nonneg k (by omega : n - 2 ≠ 0)
      have m1 := Int.emod_lt_of_pos k (by omega : 0 < n - 2)
      have e1 : ((sw.length : Nat) : Int) - 2 = n - 2 := by omega
      simp (disch := omega) only [Q.evs, Nat.reduceAdd, Nat.reduceSub, Nat.reduceLeDiff, Nat.reduceLT, Nat.reduceEqDiff, Int.reducePow, Int.reduceToNat, Int.reduceAdd, Int.reduceMul, Int.reduceNeg, Int.reduceSub, Int.reduceLT, Int.reduceLE, decide_eq_true_eq, Bool.or_false, Bool.or_true, Bool.false_or, Bool.true_or, Bool.not_true, Bool.not_false, Bool.not_eq_true, decide_eq_false_iff_not, Bool.not_eq_eq_eq_not, decide_true, decide_false, ↓reduceIte, if_pos, if_neg, Bool.false_eq_true, and_self, and_true, true_and, List.getElem?_cons_zero, List.getElem?_cons_succ, List.set_cons_zero, List.set_cons_succ, List.length_cons, List.length_nil, List.length_map, List.map_cons, List.map_nil, List.replicate, List.cons_append, List.nil_append, List.append_nil, Option.map_some, Option.map_none, iD, e1, ixN_of, atI_gt, List.length_set]
      refine ⟨sw.set (2 + k % (n - 2)).toNat (gt sw (2 + k % (n - 2) - 1) - 1), by simp [iD], by simp; omega, fun h => absurd h (by decide), fun _ h => ?_⟩
      have := (h.2.2.1 (2 + k % (n - 2)) (by omega) (by omega)).2
      rw [gt_set (by omega) (by omega), gt_set_ne (by omega) (by omega) (by omega)] at this
      omega
  · have f3 := f2 rfl
    have m0 := Int.emod_nonneg k (by omega : n - 2 ≠ 0)
    have m1 := Int.emod_lt_of_pos k (by omega : 0 < n - 2)
    have e1 : ((sw.length : Nat) : Int) - 2 = n - 2 := by omega
    generalize hfar : 2 + k % (n - 2) = far at *
    have o0 := Int.emod_nonneg (k / 31) (by omega : far / 2 ≠ 0)
    have o1 := Int.emod_lt_of_pos (k / 31) (by omega : 0 < far / 2)
    generalize hone : 1 + k / 31 % (far / 2) = one at *
    have ixf := ixN_of (n := sw.length) (i := far) (by omega) (by omega)
    generalize hv : gt sw one + gt sw (far - one) + 1 = v
    have kk := lc_mapA (p := .nm 6) (t := tyes) (x := op2 fMax2 (var 6) (idx (var 3) (var 4)))
      (e := [.cold (iD sw), .cold (.int 17), .cold (.int k), .hot ((sw.set far.toNat v).map .int), .cold (.int far), .cold (.int one), .no]) (f := D.int) (g := fun j => D.int (if gt (sw.set far.toNat v) far > j then gt (sw.set far.toNat v) far else j)) (n := (sw.set far.toNat v).drop (far + 1).toNat) (acc := [])
      (fun j hj => by
        have a := atI_gt (xs := sw.set far.toNat v) (i := far) (by omega) (by simp; omega)
        simp (disch := omega) only [Q.evs, Nat.reduceAdd, Nat.reduceSub, Nat.reduceLeDiff, Nat.reduceLT, Nat.reduceEqDiff, Int.reducePow, Int.reduceToNat, Int.reduceAdd, Int.reduceMul, Int.reduceNeg, Int.reduceSub, Int.reduceLT, Int.reduceLE, decide_eq_true_eq, Bool.or_false, Bool.or_true, Bool.false_or, Bool.true_or, Bool.not_true, Bool.not_false, Bool.not_eq_true, decide_eq_false_iff_not, Bool.not_eq_eq_eq_not, decide_true, decide_false, ↓reduceIte, if_pos, if_neg, Bool.false_eq_true, and_self, and_true, true_and, List.getElem?_cons_zero, List.getElem?_cons_succ, List.set_cons_zero, List.set_cons_succ, List.length_cons, List.length_nil, List.length_map, List.map_cons, List.map_nil, List.replicate, List.cons_append, List.nil_append, List.append_nil, Option.map_some, Option.map_none, lcTurn, a]) (by simp [most]; omega)
    have ch := cut_head (sw.set far.toNat v) (far + 1) (by omega) (by simp; omega)
    have ct := cut_tail (sw.set far.toNat v) (far + 1) (by omega) (by simp; omega)
    unfold iD at kk
    simp (disch := omega) only [Q.evs, Nat.reduceAdd, Nat.reduceSub, Nat.reduceLeDiff, Nat.reduceLT, Nat.reduceEqDiff, Int.reducePow, Int.reduceToNat, Int.reduceAdd, Int.reduceMul, Int.reduceNeg, Int.reduceSub, Int.reduceLT, Int.reduceLE, decide_eq_true_eq, Bool.or_false, Bool.or_true, Bool.false_or, Bool.true_or, Bool.not_true, Bool.not_false, Bool.not_eq_true, decide_eq_false_iff_not, Bool.not_eq_eq_eq_not, decide_true, decide_false, ↓reduceIte, if_pos, if_neg, Bool.false_eq_true, and_self, and_true, true_and, List.getElem?_cons_zero, List.getElem?_cons_succ, List.set_cons_zero, List.set_cons_succ, List.length_cons, List.length_nil, List.length_map, List.map_cons, List.map_nil, List.replicate, List.cons_append, List.nil_append, List.append_nil, Option.map_some, Option.map_none, iD, e1, hfar, hone, atI_gt, ixf, hv, ← List.map_set, cut_map, ch, ct, kk, List.length_take, List.length_drop, List.length_set]
    refine ⟨(sw.set far.toNat v).take (far + 1).toNat ++ ((sw.set far.toNat v).drop (far + 1).toNat).map (fun j => if gt (sw.set far.toNat v) far > j then gt (sw.set far.toNat v) far else j), ?_, by simp; omega, fun h => absurd h (by decide), fun _ h => ?_⟩
    · simp [iD, Function.comp_def]
    · have := h.2.2.2 one (far - one) (by omega) (by omega) (by omega)
      rw [show one + (far - one) = far by omega, gt_take (by omega) (by omega) (by simp; omega), gt_take (by omega) (by omega) (by simp; omega), gt_take (by omega) (by omega) (by simp; omega),
        gt_set (by omega) (by omega), gt_set_ne (by omega) (by omega) (by omega), gt_set_ne (by omega) (by omega) (by omega)] at this
      omega
theorem foldl_max_mem : ∀ (xs : List Int) (a : Int), xs.foldl max a ∈ a :: xs := by
  intro xs
  induction xs with
  | nil => intro a; simp
  | cons x r ih =>
    intro a
    have h := ih (max a x)
    rw [List.foldl_cons]
    rcases List.mem_cons.mp h with h | h
    · rw [h]
      rcases Int.le_total a x with q | q
      · rw [Int.max_eq_right q]; simp
      · rw [Int.max_eq_left q]; simp
    · simp [h]
theorem maxI_mem {xs : List Int} (h : 1 ≤ xs.length) : maxI xs ∈ xs := by
  cases xs with
  | nil => simp at h
  | cons x r => exact foldl_max_mem r x
theorem fMax_ok {xs : List Int} (h : 1 ≤ xs.length) : fMax (.lst (xs.map .int)) = some (.int (maxI xs)) := by
  cases xs with
  | nil => simp at h
  | cons x r => simp [ints_map, ← List.map_cons, -List.map_cons]
theorem law_true : ∀ ns : List Int, ns.length ≤ 63 → ∃ c, Ev.law [.frz ns] = .ok (.bl true) c := by
  intro ns hns
  refine fn_wpP (fun r => ∃ c, r = .ok (.bl true) c) ?_
  unfold Ev.b_law
  obtain ⟨zs, z1, hz⟩ := zones_ok (gt ns 0) (gt ns 1)
  obtain ⟨lap, l1, hl⟩ := lap_ok hz (gt ns 2)
  have hl0 := hl.lo
  have hl9 := hl.hi
  have c1 := counts_ok hz
  have cl := cnt_len hz
  have m0 := Int.emod_nonneg (mix (gt ns 3) 0) (by omega : lap ≠ 0)
  have m1 := Int.emod_lt_of_pos (mix (gt ns 3) 0) (by omega : 0 < lap)
  obtain ⟨sw, w1, hw⟩ := swing_ok (n := (cnt zs).length) (by omega) (by omega) (gt ns 4)
  have p1 := plate_ok hz hl m0 m1 hw
  have wl := hw.len
  have l5 := hz.hi
  have l6 := hz.lo
  have a0 := @mix_lo (gt ns 6) 0
  have a1 := @mix_hi (gt ns 6) 0
  have k0 := Int.emod_nonneg (mix (gt ns 6) 0) (by omega : (zs.length : Int) ≠ 0)
  have k1 := Int.emod_lt_of_pos (mix (gt ns 6) 0) (by omega : 0 < (zs.length : Int))
  have s1 := same_refl (d := .int (cnt zs).length) rfl
  have q1 := Int.ediv_le_self lap (by decide : (0 : Int) ≤ 1000000000)
  have q0 := Int.ediv_nonneg (by decide : (0 : Int) ≤ 1000000000) (by omega : 0 ≤ lap)
  have q2 := Int.lt_ediv_add_one_mul_self 1000000000 (by omega : 0 < lap)
  have mx := maxI_mem (xs := cnt zs) (by omega)
  have fm := fMax_ok (xs := cnt zs) (by omega)
  have zbf := fun f (a : 0 ≤ f) (b : f ≤ 17) => zones_bad_ok hz a b k0 k1
  have sbf := fun f (a : 0 ≤ f) (b : f ≤ 17) (c : f = 17 → 3 ≤ ((cnt zs).length : Int)) => swing_bad_ok hw (by omega) (by omega) a b c a0
  unfold iD at c1 w1 p1
  simp (disch := omega) only [Q.evs, Nat.reduceAdd, Nat.reduceSub, Nat.reduceLeDiff, Nat.reduceLT, Nat.reduceEqDiff, Int.reducePow, Int.reduceToNat, Int.reduceAdd, Int.reduceMul, Int.reduceNeg, Int.reduceSub, Int.reduceLT, Int.reduceLE, decide_eq_true_eq, Bool.or_false, Bool.or_true, Bool.false_or, Bool.true_or, Bool.not_true, Bool.not_false, Bool.not_eq_true, decide_eq_false_iff_not, Bool.not_eq_eq_eq_not, decide_true, decide_false, ↓reduceIte, if_pos, if_neg, Bool.false_eq_true, and_self, and_true, true_and, List.getElem?_cons_zero, List.getElem?_cons_succ, List.set_cons_zero, List.set_cons_succ, List.length_cons, List.length_nil, List.length_map, List.map_cons, List.map_nil, List.replicate, List.cons_append, List.nil_append, List.append_nil, Option.map_some, Option.map_none, at_ok, z1, l1, c1, mix_ok, w1, p1, methS_plate, rings_ok, s1]
  generalize hsk : mix (gt ns 3) 0 % lap = sk at *
  generalize hf : mix (gt ns 5) 0 % 18 = f0 at *
  generalize hat : mix (gt ns 6) 0 = at0 at *
  refine wp_join (fun e => ∃ f, (0 ≤ f ∧ f ≤ 17 ∧ (f = 17 → 3 ≤ ((cnt zs).length : Int))) ∧ e = [.cold (.frz ns), .cold (.lst (zs.map zp)), .cold (iD (cnt zs)), .cold (.int lap), .cold (.int sk), .cold (iD sw), .cold (.int f), .cold (.int at0), .no, .no]) ?_ ?_
  · by_cases h1 : f0 = 17
    · by_cases h2 : (sw.length : Int) = 2
      · simp (disch := omega) only [Q.evs, Nat.reduceAdd, Nat.reduceSub, Nat.reduceLeDiff, Nat.reduceLT, Nat.reduceEqDiff, Int.reducePow, Int.reduceToNat, Int.reduceAdd, Int.reduceMul, Int.reduceNeg, Int.reduceSub, Int.reduceLT, Int.reduceLE, decide_eq_true_eq, Bool.or_false, Bool.or_true, Bool.false_or, Bool.true_or, Bool.not_true, Bool.not_false, Bool.not_eq_true, decide_eq_false_iff_not, Bool.not_eq_eq_eq_not, decide_true, decide_false, ↓reduceIte, if_pos, if_neg, Bool.false_eq_true, and_self, and_true, true_and, List.getElem?_cons_zero, List.getElem?_cons_succ, List.set_cons_zero, List.set_cons_succ, List.length_cons, List.length_nil, List.length_map, List.map_cons, List.map_nil, List.replicate, List.cons_append, List.nil_append, List.append_nil, Option.map_some, Option.map_none, h1, h2]
        exact ⟨_, rfl, 16, by omega, rfl⟩
      · simp (disch := omega) only [Q.evs, Nat.reduceAdd, Nat.reduceSub, Nat.reduceLeDiff, Nat.reduceLT, Nat.reduceEqDiff, Int.reducePow, Int.reduceToNat, Int.reduceAdd, Int.reduceMul, Int.reduceNeg, Int.reduceSub, Int.reduceLT, Int.reduceLE, decide_eq_true_eq, Bool.or_false, Bool.or_true, Bool.false_or, Bool.true_or, Bool.not_true, Bool.not_false, Bool.not_eq_true, decide_eq_false_iff_not, Bool.not_eq_eq_eq_not, decide_true, decide_false, ↓reduceIte, if_pos, if_neg, Bool.false_eq_true, and_self, and_true, true_and, List.getElem?_cons_zero, List.getElem?_cons_succ, List.set_cons_zero, List.set_cons_succ, List.length_cons, List.length_nil, List.length_map, List.map_cons, List.map_nil, List.replicate, List.cons_append, List.nil_append, List.append_nil, Option.map_some, Option.map_none, h1, h2]
        exact ⟨_, rfl, 17, by omega, rfl⟩
    · simp (disch := omega) only [Q.evs, Nat.reduceAdd, Nat.reduceSub, Nat.reduceLeDiff, Nat.reduceLT, Nat.reduceEqDiff, Int.reducePow, Int.reduceToNat, Int.reduceAdd, Int.reduceMul, Int.reduceNeg, Int.reduceSub, Int.reduceLT, Int.reduceLE, decide_eq_true_eq, Bool.or_false, Bool.or_true, Bool.false_or, Bool.true_or, Bool.not_true, Bool.not_false, Bool.not_eq_true, decide_eq_false_iff_not, Bool.not_eq_eq_eq_not, decide_true, decide_false, ↓reduceIte, if_pos, if_neg, Bool.false_eq_true, and_self, and_true, true_and, List.getElem?_cons_zero, List.getElem?_cons_succ, List.set_cons_zero, List.set_cons_succ, List.length_cons, List.length_nil, List.length_map, List.map_cons, List.map_nil, List.replicate, List.cons_append, List.nil_append, List.append_nil, Option.map_some, Option.map_none, h1]
      exact ⟨_, rfl, f0, by omega, rfl⟩
  rintro e ⟨f, ⟨f1, f2, f3⟩, rfl⟩
  obtain ⟨ys, zb1, zb2, zb3, zb4, zb5⟩ := zbf f f1 f2
  obtain ⟨bs, sb1, sb2, sb3, sb4⟩ := sbf f f1 f2 f3
  unfold iD at sb1
  simp (disch := omega) only [Q.evs, Nat.reduceAdd, Nat.reduceSub, Nat.reduceLeDiff, Nat.reduceLT, Nat.reduceEqDiff, Int.reducePow, Int.reduceToNat, Int.reduceAdd, Int.reduceMul, Int.reduceNeg, Int.reduceSub, Int.reduceLT, Int.reduceLE, decide_eq_true_eq, Bool.or_false, Bool.or_true, Bool.false_or, Bool.true_or, Bool.not_true, Bool.not_false, Bool.not_eq_true, decide_eq_false_iff_not, Bool.not_eq_eq_eq_not, decide_true, decide_false, ↓reduceIte, if_pos, if_neg, Bool.false_eq_true, and_self, and_true, true_and, List.getElem?_cons_zero, List.getElem?_cons_succ, List.set_cons_zero, List.set_cons_succ, List.length_cons, List.length_nil, List.length_map, List.map_cons, List.map_nil, List.replicate, List.cons_append, List.nil_append, List.append_nil, Option.map_some, Option.map_none, zb1, sb1, iD]
  refine wp_join (fun e => ∃ cs : List Int, (cs.length ≤ 1000 ∧ (f ≠ 6 → f ≠ 7 → cs = bs)) ∧ e = [.cold (.frz ns), .cold (.lst (zs.map zp)), .cold (iD (cnt zs)), .cold (.int lap), .cold (.int sk), .cold (iD sw), .cold (.int f), .cold (.int at0), .cold (.lst (ys.map zp)), .cold (iD cs)]) ?_ ?_
  · by_cases h : f = 6 ∨ f = 7
    · obtain ⟨y1, y2, y3⟩ := zb5 h
      have cg := counts_gen y1 zb2
      unfold iD at cg
      rcases h with h | h
      all_goals
        simp (disch := omega) only [Q.evs, Nat.reduceAdd, Nat.reduceSub, Nat.reduceLeDiff, Nat.reduceLT, Nat.reduceEqDiff, Int.reducePow, Int.reduceToNat, Int.reduceAdd, Int.reduceMul, Int.reduceNeg, Int.reduceSub, Int.reduceLT, Int.reduceLE, decide_eq_true_eq, Bool.or_false, Bool.or_true, Bool.false_or, Bool.true_or, Bool.not_true, Bool.not_false, Bool.not_eq_true, decide_eq_false_iff_not, Bool.not_eq_eq_eq_not, decide_true, decide_false, ↓reduceIte, if_pos, if_neg, Bool.false_eq_true, and_self, and_true, true_and, List.getElem?_cons_zero, List.getElem?_cons_succ, List.set_cons_zero, List.set_cons_succ, List.length_cons, List.length_nil, List.length_map, List.map_cons, List.map_nil, List.replicate, List.cons_append, List.nil_append, List.append_nil, Option.map_some, Option.map_none, h, cg, repD_one, List.length_replicate]
        refine ⟨_, rfl, 0 :: List.replicate (((cnt ys).length : Int) - 1).toNat 1, ⟨by simp; omega, fun a b => ?_⟩, by simp [iD]⟩
        omega
    · have h6 : ¬ f = 6 := fun z => h (.inl z)
      have h7 : ¬ f = 7 := fun z => h (.inr z)
      simp (disch := omega) only [Q.evs, Nat.reduceAdd, Nat.reduceSub, Nat.reduceLeDiff, Nat.reduceLT, Nat.reduceEqDiff, Int.reducePow, Int.reduceToNat, Int.reduceAdd, Int.reduceMul, Int.reduceNeg, Int.reduceSub, Int.reduceLT, Int.reduceLE, decide_eq_true_eq, Bool.or_false, Bool.or_true, Bool.false_or, Bool.true_or, Bool.not_true, Bool.not_false, Bool.not_eq_true, decide_eq_false_iff_not, Bool.not_eq_eq_eq_not, decide_true, decide_false, ↓reduceIte, if_pos, if_neg, Bool.false_eq_true, and_self, and_true, true_and, List.getElem?_cons_zero, List.getElem?_cons_succ, List.set_cons_zero, List.set_cons_succ, List.length_cons, List.length_nil, List.length_map, List.map_cons, List.map_nil, List.replicate, List.cons_append, List.nil_append, List.append_nil, Option.map_some, Option.map_none, h6, h7]
      exact ⟨_, rfl, bs, ⟨by omega, fun _ _ => rfl⟩, rfl⟩
  rintro e ⟨cs, ⟨hc1, hc2⟩, rfl⟩
  have no := fun l s h => refused_ok (plate_no (zs := ys) (lap := l) (skew := s) (sw := cs) (by omega) hc1 h)
  unfold iD at no
  by_cases h8 : f = 8
  · have n1 := no 0 0 (.inr (.inl fun z => by omega))
    have n2 := no ((1000000000 / lap + 1) * lap) sk (.inr (.inl fun z => by omega))
    simp (disch := omega) only [Q.evs, Nat.reduceAdd, Nat.reduceSub, Nat.reduceLeDiff, Nat.reduceLT, Nat.reduceEqDiff, Int.reducePow, Int.reduceToNat, Int.reduceAdd, Int.reduceMul, Int.reduceNeg, Int.reduceSub, Int.reduceLT, Int.reduceLE, decide_eq_true_eq, Bool.or_false, Bool.or_true, Bool.false_or, Bool.true_or, Bool.not_true, Bool.not_false, Bool.not_eq_true, decide_eq_false_iff_not, Bool.not_eq_eq_eq_not, decide_true, decide_false, ↓reduceIte, if_pos, if_neg, Bool.false_eq_true, and_self, and_true, true_and, List.getElem?_cons_zero, List.getElem?_cons_succ, List.set_cons_zero, List.set_cons_succ, List.length_cons, List.length_nil, List.length_map, List.map_cons, List.map_nil, List.replicate, List.cons_append, List.nil_append, List.append_nil, Option.map_some, Option.map_none, h8, iD, n1, n2]
    exact ⟨_, rfl⟩
  · by_cases h9 : f = 9
    · have e1 := zb3 (by omega)
      by_cases hm : 1 < maxI (cnt zs)
      · have n1 := no (lap + 1) sk (.inr (.inl fun z => by
          have := z.2.2 (maxI (cnt zs)) (by rw [e1]; exact mx)
          have hd := Int.emod_eq_zero_of_dvd (hl.dv _ mx).2.2
          rw [Int.add_emod, hd, Int.zero_add, Int.emod_eq_of_lt (a := 1) (by omega) hm, Int.emod_eq_of_lt (by omega) hm] at this
          omega))
        simp (disch := omega) only [Q.evs, Nat.reduceAdd, Nat.reduceSub, Nat.reduceLeDiff, Nat.reduceLT, Nat.reduceEqDiff, Int.reducePow, Int.reduceToNat, Int.reduceAdd, Int.reduceMul, Int.reduceNeg, Int.reduceSub, Int.reduceLT, Int.reduceLE, decide_eq_true_eq, Bool.or_false, Bool.or_true, Bool.false_or, Bool.true_or, Bool.not_true, Bool.not_false, Bool.not_eq_true, decide_eq_false_iff_not, Bool.not_eq_eq_eq_not, decide_true, decide_false, ↓reduceIte, if_pos, if_neg, Bool.false_eq_true, and_self, and_true, true_and, List.getElem?_cons_zero, List.getElem?_cons_succ, List.set_cons_zero, List.set_cons_succ, List.length_cons, List.length_nil, List.length_map, List.map_cons, List.map_nil, List.replicate, List.cons_append, List.nil_append, List.append_nil, Option.map_some, Option.map_none, h9, iD, fm, hm, n1]
        exact ⟨_, rfl⟩
      · have n1 := no lap (-1 - at0) (.inr (.inl fun z => by omega))
        simp (disch := omega) only [Q.evs, Nat.reduceAdd, Nat.reduceSub, Nat.reduceLeDiff, Nat.reduceLT, Nat.reduceEqDiff, Int.reducePow, Int.reduceToNat, Int.reduceAdd, Int.reduceMul, Int.reduceNeg, Int.reduceSub, Int.reduceLT, Int.reduceLE, decide_eq_true_eq, Bool.or_false, Bool.or_true, Bool.false_or, Bool.true_or, Bool.not_true, Bool.not_false, Bool.not_eq_true, decide_eq_false_iff_not, Bool.not_eq_eq_eq_not, decide_true, decide_false, ↓reduceIte, if_pos, if_neg, Bool.false_eq_true, and_self, and_true, true_and, List.getElem?_cons_zero, List.getElem?_cons_succ, List.set_cons_zero, List.set_cons_succ, List.length_cons, List.length_nil, List.length_map, List.map_cons, List.map_nil, List.replicate, List.cons_append, List.nil_append, List.append_nil, Option.map_some, Option.map_none, h9, iD, fm, hm, n1]
        exact ⟨_, rfl⟩
    · by_cases h10 : f = 10
      · have n1 := no lap (-1 - at0) (.inr (.inl fun z => by omega))
        simp (disch := omega) only [Q.evs, Nat.reduceAdd, Nat.reduceSub, Nat.reduceLeDiff, Nat.reduceLT, Nat.reduceEqDiff, Int.reducePow, Int.reduceToNat, Int.reduceAdd, Int.reduceMul, Int.reduceNeg, Int.reduceSub, Int.reduceLT, Int.reduceLE, decide_eq_true_eq, Bool.or_false, Bool.or_true, Bool.false_or, Bool.true_or, Bool.not_true, Bool.not_false, Bool.not_eq_true, decide_eq_false_iff_not, Bool.not_eq_eq_eq_not, decide_true, decide_false, ↓reduceIte, if_pos, if_neg, Bool.false_eq_true, and_self, and_true, true_and, List.getElem?_cons_zero, List.getElem?_cons_succ, List.set_cons_zero, List.set_cons_succ, List.length_cons, List.length_nil, List.length_map, List.map_cons, List.map_nil, List.replicate, List.cons_append, List.nil_append, List.append_nil, Option.map_some, Option.map_none, h10, iD, n1]
        exact ⟨_, rfl⟩
      · by_cases h11 : f = 11
        · have n1 := no lap (lap + at0 % 2) (.inr (.inl fun z => by omega))
          simp (disch := omega) only [Q.evs, Nat.reduceAdd, Nat.reduceSub, Nat.reduceLeDiff, Nat.reduceLT, Nat.reduceEqDiff, Int.reducePow, Int.reduceToNat, Int.reduceAdd, Int.reduceMul, Int.reduceNeg, Int.reduceSub, Int.reduceLT, Int.reduceLE, decide_eq_true_eq, Bool.or_false, Bool.or_true, Bool.false_or, Bool.true_or, Bool.not_true, Bool.not_false, Bool.not_eq_true, decide_eq_false_iff_not, Bool.not_eq_eq_eq_not, decide_true, decide_false, ↓reduceIte, if_pos, if_neg, Bool.false_eq_true, and_self, and_true, true_and, List.getElem?_cons_zero, List.getElem?_cons_succ, List.set_cons_zero, List.set_cons_succ, List.length_cons, List.length_nil, List.length_map, List.map_cons, List.map_nil, List.replicate, List.cons_append, List.nil_append, List.append_nil, Option.map_some, Option.map_none, h11, iD, n1]
          exact ⟨_, rfl⟩
        · have n1 := no lap sk (by
            by_cases h7 : f ≤ 7
            · exact .inl (zb4 h7)
            · refine .inr (.inr ?_)
              have g := sb4 (by omega)
              rw [zb3 (by omega), hc2 (by omega) (by omega)]
              exact g)
          simp (disch := omega) only [Q.evs, Nat.reduceAdd, Nat.reduceSub, Nat.reduceLeDiff, Nat.reduceLT, Nat.reduceEqDiff, Int.reducePow, Int.reduceToNat, Int.reduceAdd, Int.reduceMul, Int.reduceNeg, Int.reduceSub, Int.reduceLT, Int.reduceLE, decide_eq_true_eq, Bool.or_false, Bool.or_true, Bool.false_or, Bool.true_or, Bool.not_true, Bool.not_false, Bool.not_eq_true, decide_eq_false_iff_not, Bool.not_eq_eq_eq_not, decide_true, decide_false, ↓reduceIte, if_pos, if_neg, Bool.false_eq_true, and_self, and_true, true_and, List.getElem?_cons_zero, List.getElem?_cons_succ, List.set_cons_zero, List.set_cons_succ, List.length_cons, List.length_nil, List.length_map, List.map_cons, List.map_nil, List.replicate, List.cons_append, List.nil_append, List.append_nil, Option.map_some, Option.map_none, h8, h9, h10, h11, iD, n1]
          exact ⟨_, rfl⟩

end Ma

set_option Elab.async false
set_option linter.all false
set_option maxRecDepth 100000
set_option maxHeartbeats 8000000
namespace Wk
open PySem PySem.Spec PyProof.Rows L2 QW
open Q (D R)
def top (i : Nat) : Stmt := PySem.Challenge.pw_armswing_k04_plates_refused.main.body.getD i (.Pass ⟨0, 0, 0, 0⟩)
abbrev s_ring_counts : Stmt := top 14
abbrev N_ring_counts : List Str := ["zones", "counts", "many", "cells", "ring"]
theorem sc_ring_counts : FnScope N_ring_counts ["zones"] (defScope s_ring_counts) := ⟨rfl, rfl, rfl, by decide +kernel, rfl, by decide +kernel, by decide +kernel⟩
abbrev s_check_lap : Stmt := top 15
abbrev N_check_lap : List Str := ["counts", "lap", "skew", "cells"]
theorem sc_check_lap : FnScope N_check_lap ["counts", "lap", "skew"] (defScope s_check_lap) := ⟨rfl, rfl, rfl, by decide +kernel, rfl, by decide +kernel, by decide +kernel⟩
abbrev s_check_swing : Stmt := top 16
abbrev N_check_swing : List Str := ["swing", "rings", "far", "one", "other"]
theorem sc_check_swing : FnScope N_check_swing ["swing", "rings"] (defScope s_check_swing) := ⟨rfl, rfl, rfl, by decide +kernel, rfl, by decide +kernel, by decide +kernel⟩
abbrev s_Plate_init : Stmt := inClass (top 17) 0
abbrev N_Plate_init : List Str := ["self", "zones", "lap", "skew", "swing"]
theorem sc_Plate_init : FnScope N_Plate_init ["self", "zones", "lap", "skew", "swing"] (defScope s_Plate_init) := ⟨rfl, rfl, rfl, by decide +kernel, rfl, by decide +kernel, by decide +kernel⟩
abbrev s_Plate_rings : Stmt := inClass (top 17) 1
abbrev N_Plate_rings : List Str := ["self"]
theorem sc_Plate_rings : FnScope N_Plate_rings ["self"] (defScope s_Plate_rings) := ⟨rfl, rfl, rfl, by decide +kernel, rfl, by decide +kernel, by decide +kernel⟩
abbrev s_l_at : Stmt := top 19
abbrev N_l_at : List Str := ["script", "k"]
theorem sc_l_at : FnScope N_l_at ["script", "k"] (defScope s_l_at) := ⟨rfl, rfl, rfl, by decide +kernel, rfl, by decide +kernel, by decide +kernel⟩
abbrev s_l_same : Stmt := top 20
abbrev N_l_same : List Str := ["found", "due", "k"]
theorem sc_l_same : FnScope N_l_same ["found", "due"] (defScope s_l_same) := ⟨rfl, rfl, rfl, by decide +kernel, rfl, by decide +kernel, by decide +kernel⟩
abbrev s_l_mix : Stmt := top 21
abbrev N_l_mix : List Str := ["cell", "k", "by"]
theorem sc_l_mix : FnScope N_l_mix ["cell", "k"] (defScope s_l_mix) := ⟨rfl, rfl, rfl, by decide +kernel, rfl, by decide +kernel, by decide +kernel⟩
abbrev s_l_zones : Stmt := top 22
abbrev N_l_zones : List Str := ["a", "b", "many", "zones", "k"]
theorem sc_l_zones : FnScope N_l_zones ["a", "b"] (defScope s_l_zones) := ⟨rfl, rfl, rfl, by decide +kernel, rfl, by decide +kernel, by decide +kernel⟩
abbrev s_l_counts : Stmt := top 23
abbrev N_l_counts : List Str := ["zones", "counts", "many", "cells"]
theorem sc_l_counts : FnScope N_l_counts ["zones"] (defScope s_l_counts) := ⟨rfl, rfl, rfl, by decide +kernel, rfl, by decide +kernel, by decide +kernel⟩
abbrev s_l_lap : Stmt := top 24
abbrev N_l_lap : List Str := ["zones", "cell", "product", "many", "cells", "most"]
theorem sc_l_lap : FnScope N_l_lap ["zones", "cell"] (defScope s_l_lap) := ⟨rfl, rfl, rfl, by decide +kernel, rfl, by decide +kernel, by decide +kernel⟩
abbrev s_l_swing : Stmt := top 25
abbrev N_l_swing : List Str := ["many", "cell", "step", "swing", "k", "least"]
theorem sc_l_swing : FnScope N_l_swing ["many", "cell"] (defScope s_l_swing) := ⟨rfl, rfl, rfl, by decide +kernel, rfl, by decide +kernel, by decide +kernel⟩
abbrev s_l_zones_bad : Stmt := top 26
abbrev N_l_zones_bad : List Str := ["zones", "fault", "at", "some"]
theorem sc_l_zones_bad : FnScope N_l_zones_bad ["zones", "fault", "at"] (defScope s_l_zones_bad) := ⟨rfl, rfl, rfl, by decide +kernel, rfl, by decide +kernel, by decide +kernel⟩
abbrev s_l_swing_bad : Stmt := top 27
abbrev N_l_swing_bad : List Str := ["swing", "fault", "at", "some", "far", "one", "number"]
theorem sc_l_swing_bad : FnScope N_l_swing_bad ["swing", "fault", "at"] (defScope s_l_swing_bad) := ⟨rfl, rfl, rfl, by decide +kernel, rfl, by decide +kernel, by decide +kernel⟩
abbrev s_l_refused : Stmt := top 28
abbrev N_l_refused : List Str := ["zones", "lap", "skew", "swing", "found", "e"]
theorem sc_l_refused : FnScope N_l_refused ["zones", "lap", "skew", "swing"] (defScope s_l_refused) := ⟨rfl, rfl, rfl, by decide +kernel, rfl, by decide +kernel, by decide +kernel⟩
abbrev s_law : Stmt := top 29
abbrev N_law : List Str := ["script", "zones", "counts", "lap", "skew", "swing", "fault", "at", "some", "bent"]
theorem sc_law : FnScope N_law ["script"] (defScope s_law) := ⟨rfl, rfl, rfl, by decide +kernel, rfl, by decide +kernel, by decide +kernel⟩
theorem nm_Plate_rings : ("rings" : Str) ∉ (["counts", "lap", "skew", "swings", "spare"] : List Str) := by decide +kernel
structure Tx (K : PySem.W.Frag) (mg : Str → Option Value) where
  C_Plate : Addr
  f_ring_counts : Addr
  fd_ring_counts : FuncData
  F_ring_counts : Fun K "ring_counts" "ring_counts" s_ring_counts f_ring_counts fd_ring_counts
  b_ring_counts : Binds K fd_ring_counts ["zones"] []
  m_ring_counts : mg "ring_counts" = some (.ref f_ring_counts)
  k_ring_counts : PySem.W.keepIn K (.ref f_ring_counts) = true
  f_check_lap : Addr
  fd_check_lap : FuncData
  F_check_lap : Fun K "check_lap" "check_lap" s_check_lap f_check_lap fd_check_lap
  b_check_lap : Binds K fd_check_lap ["counts", "lap", "skew"] []
  m_check_lap : mg "check_lap" = some (.ref f_check_lap)
  k_check_lap : PySem.W.keepIn K (.ref f_check_lap) = true
  f_check_swing : Addr
  fd_check_swing : FuncData
  F_check_swing : Fun K "check_swing" "check_swing" s_check_swing f_check_swing fd_check_swing
  b_check_swing : Binds K fd_check_swing ["swing", "rings"] []
  m_check_swing : mg "check_swing" = some (.ref f_check_swing)
  k_check_swing : PySem.W.keepIn K (.ref f_check_swing) = true
  f_Plate_init : Addr
  fd_Plate_init : FuncData
  F_Plate_init : Fun K "__init__" "Plate.__init__" s_Plate_init f_Plate_init fd_Plate_init
  b_Plate_init : Binds K fd_Plate_init ["self", "zones", "lap", "skew", "swing"] []
  f_Plate_rings : Addr
  fd_Plate_rings : FuncData
  F_Plate_rings : Fun K "rings" "Plate.rings" s_Plate_rings f_Plate_rings fd_Plate_rings
  b_Plate_rings : Binds K fd_Plate_rings ["self"] []
  f_l_at : Addr
  fd_l_at : FuncData
  F_l_at : Fun K "_law_at" "_law_at" s_l_at f_l_at fd_l_at
  b_l_at : Binds K fd_l_at ["script", "k"] []
  m_l_at : mg "_law_at" = some (.ref f_l_at)
  k_l_at : PySem.W.keepIn K (.ref f_l_at) = true
  f_l_same : Addr
  fd_l_same : FuncData
  F_l_same : Fun K "_law_same" "_law_same" s_l_same f_l_same fd_l_same
  b_l_same : Binds K fd_l_same ["found", "due"] []
  m_l_same : mg "_law_same" = some (.ref f_l_same)
  k_l_same : PySem.W.keepIn K (.ref f_l_same) = true
  f_l_mix : Addr
  fd_l_mix : FuncData
  F_l_mix : Fun K "_law_mix" "_law_mix" s_l_mix f_l_mix fd_l_mix
  b_l_mix : Binds K fd_l_mix ["cell", "k"] []
  m_l_mix : mg "_law_mix" = some (.ref f_l_mix)
  k_l_mix : PySem.W.keepIn K (.ref f_l_mix) = true
  f_l_zones : Addr
  fd_l_zones : FuncData
  F_l_zones : Fun K "_law_zones" "_law_zones" s_l_zones f_l_zones fd_l_zones
  b_l_zones : Binds K fd_l_zones ["a", "b"] []
  m_l_zones : mg "_law_zones" = some (.ref f_l_zones)
  k_l_zones : PySem.W.keepIn K (.ref f_l_zones) = true
  f_l_counts : Addr
  fd_l_counts : FuncData
  F_l_counts : Fun K "_law_counts" "_law_counts" s_l_counts f_l_counts fd_l_counts
  b_l_counts : Binds K fd_l_counts ["zones"] []
  m_l_counts : mg "_law_counts" = some (.ref f_l_counts)
  k_l_counts : PySem.W.keepIn K (.ref f_l_counts) = true
  f_l_lap : Addr
  fd_l_lap : FuncData
  F_l_lap : Fun K "_law_lap" "_law_lap" s_l_lap f_l_lap fd_l_lap
  b_l_lap : Binds K fd_l_lap ["zones", "cell"] []
  m_l_lap : mg "_law_lap" = some (.ref f_l_lap)
  k_l_lap : PySem.W.keepIn K (.ref f_l_lap) = true
  f_l_swing : Addr
  fd_l_swing : FuncData
  F_l_swing : Fun K "_law_swing" "_law_swing" s_l_swing f_l_swing fd_l_swing
  b_l_swing : Binds K fd_l_swing ["many", "cell"] []
  m_l_swing : mg "_law_swing" = some (.ref f_l_swing)
  k_l_swing : PySem.W.keepIn K (.ref f_l_swing) = true
  f_l_zones_bad : Addr
  fd_l_zones_bad : FuncData
  F_l_zones_bad : Fun K "_law_zones_bad" "_law_zones_bad" s_l_zones_bad f_l_zones_bad fd_l_zones_bad
  b_l_zones_bad : Binds K fd_l_zones_bad ["zones", "fault", "at"] []
  m_l_zones_bad : mg "_law_zones_bad" = some (.ref f_l_zones_bad)
  k_l_zones_bad : PySem.W.keepIn K (.ref f_l_zones_bad) = true
  f_l_swing_bad : Addr
  fd_l_swing_bad : FuncData
  F_l_swing_bad : Fun K "_law_swing_bad" "_law_swing_bad" s_l_swing_bad f_l_swing_bad fd_l_swing_bad
  b_l_swing_bad : Binds K fd_l_swing_bad ["swing", "fault", "at"] []
  m_l_swing_bad : mg "_law_swing_bad" = some (.ref f_l_swing_bad)
  k_l_swing_bad : PySem.W.keepIn K (.ref f_l_swing_bad) = true
  f_l_refused : Addr
  fd_l_refused : FuncData
  F_l_refused : Fun K "_law_refused" "_law_refused" s_l_refused f_l_refused fd_l_refused
  b_l_refused : Binds K fd_l_refused ["zones", "lap", "skew", "swing"] []
  m_l_refused : mg "_law_refused" = some (.ref f_l_refused)
  k_l_refused : PySem.W.keepIn K (.ref f_l_refused) = true
  f_law : Addr
  fd_law : FuncData
  F_law : Fun K "law" "law" s_law f_law fd_law
  b_law : Binds K fd_law ["script"] []
  m_law : mg "law" = some (.ref f_law)
  k_law : PySem.W.keepIn K (.ref f_law) = true
  c_Plate : Cls K C_Plate
  no_Plate_counts : NoAttr K C_Plate "counts"
  no_Plate_lap : NoAttr K C_Plate "lap"
  no_Plate_skew : NoAttr K C_Plate "skew"
  no_Plate_swings : NoAttr K C_Plate "swings"
  no_Plate_spare : NoAttr K C_Plate "spare"
  mk_Plate : Mk K C_Plate f_Plate_init
  m_Plate : mg "Plate" = some (.ref C_Plate)
  mt_Plate_rings : Meth K C_Plate "rings" f_Plate_rings
  C_ArmError : Addr
  m_ArmError : mg "ArmError" = some (.ref C_ArmError)
  C_NoAsk : Addr
  m_NoAsk : mg "NoAsk" = some (.ref C_NoAsk)
  C_NoBook : Addr
  m_NoBook : mg "NoBook" = some (.ref C_NoBook)
  C_NoCell : Addr
  m_NoCell : mg "NoCell" = some (.ref C_NoCell)
  C_NoLine : Addr
  m_NoLine : mg "NoLine" = some (.ref C_NoLine)
  C_NoOrder : Addr
  m_NoOrder : mg "NoOrder" = some (.ref C_NoOrder)
  C_NoPlate : Addr
  m_NoPlate : mg "NoPlate" = some (.ref C_NoPlate)
  C_NoRule : Addr
  m_NoRule : mg "NoRule" = some (.ref C_NoRule)
  C_NoSpare : Addr
  m_NoSpare : mg "NoSpare" = some (.ref C_NoSpare)
  C_TooMany : Addr
  m_TooMany : mg "TooMany" = some (.ref C_TooMany)
  x_NoPlate : PySem.W.excIn K C_NoPlate [.type "ValueError", .type "Exception", .type "BaseException", .type "object"] "ValueError.__new__" = true
  k_NoPlate : PySem.W.keepIn K (.ref C_NoPlate) = true
  b1_NoPlate : PySem.W.subIn K (.ref C_NoPlate) (.type "BaseException") = some true
  b2_NoPlate : PySem.W.typeIn K (.ref C_NoPlate) = some (.type "type")
  ec_NoPlate : ExcC K C_NoPlate
  ex_NoPlate_ArmError : PySem.W.exmOne K (.ref C_NoPlate) (.ref C_ArmError) = some true
  kt_NoPlate_NoAsk : PySem.W.kitOne K (.ref C_NoPlate) (.ref C_NoAsk) = some false
  kt_NoPlate_NoBook : PySem.W.kitOne K (.ref C_NoPlate) (.ref C_NoBook) = some false
  kt_NoPlate_NoCell : PySem.W.kitOne K (.ref C_NoPlate) (.ref C_NoCell) = some false
  kt_NoPlate_NoLine : PySem.W.kitOne K (.ref C_NoPlate) (.ref C_NoLine) = some false
  kt_NoPlate_NoOrder : PySem.W.kitOne K (.ref C_NoPlate) (.ref C_NoOrder) = some false
  kt_NoPlate_NoPlate : PySem.W.kitOne K (.ref C_NoPlate) (.ref C_NoPlate) = some true
  kt_NoPlate_NoRule : PySem.W.kitOne K (.ref C_NoPlate) (.ref C_NoRule) = some false
  kt_NoPlate_NoSpare : PySem.W.kitOne K (.ref C_NoPlate) (.ref C_NoSpare) = some false
  kt_NoPlate_TooMany : PySem.W.kitOne K (.ref C_NoPlate) (.ref C_TooMany) = some false
  kt_NoPlate_ValueError : PySem.W.kitOne K (.ref C_NoPlate) (.type "ValueError") = some true
  n_ValueError : mg "ValueError" = none
  n_bool : mg "bool" = none
  n_int : mg "int" = none
  n_isinstance : mg "isinstance" = none
  n_len : mg "len" = none
  n_list : mg "list" = none
  n_max : mg "max" = none
  n_range : mg "range" = none
  n_sorted : mg "sorted" = none
  n_str : mg "str" = none
  n_tuple : mg "tuple" = none
  m_MOST : ∃ t, mg "MOST" = some (.int 1000000000 t)
variable {K : PySem.W.Frag} {mg : Str → Option Value}
def cfg (T : Tx K mg) : Cfg where
  K := K
  cls := fun c => match c with
    | 0 => T.C_Plate
    | 2 => T.C_NoPlate
    | _ => 0
  names := fun c => match c with
    | 0 => ["counts", "lap", "skew", "swings", "spare"]
    | _ => []
theorem Tx.ok_Plate (T : Tx K mg) : ClsOk (cfg T) 0 where
  cl := T.c_Plate
  nd := by show (["counts", "lap", "skew", "swings", "spare"] : List Str).Nodup; decide +kernel
  no := fun f h => by
    have h : f ∈ (["counts", "lap", "skew", "swings", "spare"] : List Str) := h
    simp only [List.mem_cons, List.not_mem_nil, or_false] at h
    rcases h with rfl | rfl | rfl | rfl | rfl
    · exact T.no_Plate_counts
    · exact T.no_Plate_lap
    · exact T.no_Plate_skew
    · exact T.no_Plate_swings
    · exact T.no_Plate_spare
  few := by show (["counts", "lap", "skew", "swings", "spare"] : List Str).length < 1000; decide
variable {P : Program} {w : World} {base : Heap}
theorem ok_ring_counts (T : Tx K mg) : FnOk P w (cfg T).K mg base (L2.CX P w) 1 T.f_ring_counts T.fd_ring_counts ["zones"] (spT (cfg T) 1 Ev.ring_counts) :=
  fnQ (G := cfg T) (N := N_ring_counts) (ev := Ev.b_ring_counts) T.F_ring_counts sc_ring_counts (by decide) (fun cdv A outer s H E hr => by
    exact (s_cons (s_if (q_tnot (q_tchain op_le od_le op_le od_le (q_int) (q_call1 call_len cd_len T.n_len PySem.boot_len (q_var 0)) (q_int))) (s_one (s_raise (c := 2) PySem.F.excBase_ValueError rfl (takes_of rfl rfl rfl rfl) T.x_NoPlate T.m_NoPlate T.k_NoPlate T.b1_NoPlate T.b2_NoPlate)) s_nil)
      (s_cons (s_hot (i := 1) sc_ring_counts.nd (q_lst q_anil))
      (s_cons (s_for (passes_of rfl) rfl (q_ilst (W := wE E) rfl (q_var 0)) (q_tp rfl rfl (q_gcons (q_nm 2 sc_ring_counts.nd) (q_gcons (q_nm 3 sc_ring_counts.nd) q_gnil))) (s_cons (s_if (PW.pt (q_tor (q_tnot (q_tchain op_le od_le op_le od_le (q_int) (q_var 2) (q_int))) (q_tor1 (q_tnot (q_tchain op_le od_le op_le od_le (q_int) (q_var 3) (q_int)))))) (s_one (s_raise (c := 2) PySem.F.excBase_ValueError rfl (takes_of rfl rfl rfl rfl) T.x_NoPlate T.m_NoPlate T.k_NoPlate T.b1_NoPlate T.b2_NoPlate)) s_nil)
      (s_one (s_for (passes_of rfl) rfl (q_irng1 (W := wE E) T.n_range (q_var 2)) (q_nm 4 sc_ring_counts.nd) (s_one (s_app (i := 1) (q_var 3)))))))
      (s_cons (s_if (q_tnot (q_tchain op_le od_le op_le od_le (q_int) (q_call1 call_len cd_len T.n_len PySem.boot_len (q_var 1)) (q_int))) (s_one (s_raise (c := 2) PySem.F.excBase_ValueError rfl (takes_of rfl rfl rfl rfl) T.x_NoPlate T.m_NoPlate T.k_NoPlate T.b1_NoPlate T.b2_NoPlate)) s_nil)
      (s_one (s_ret (q_var 1))))))))
theorem ok_check_lap (T : Tx K mg) : FnOk P w (cfg T).K mg base (L2.CX P w) 1 T.f_check_lap T.fd_check_lap ["counts", "lap", "skew"] (spT (cfg T) 3 Ev.check_lap) :=
  fnQ (G := cfg T) (N := N_check_lap) (ev := Ev.b_check_lap) T.F_check_lap sc_check_lap (by decide) (fun cdv A outer s H E hr => by
    exact (s_cons (s_if (PW.pt (q_tor (q_tnot (q_tchain op_le od_le op_le od_le (q_int) (q_var 1) (q_glob (d := .int 1000000000) rfl T.m_MOST.choose_spec ⟨_, rfl⟩))) (q_tor1 (q_tnot (q_tchain op_le od_le op_lt od_lt (q_int) (q_var 2) (q_var 1)))))) (s_one (s_raise (c := 2) PySem.F.excBase_ValueError rfl (takes_of rfl rfl rfl rfl) T.x_NoPlate T.m_NoPlate T.k_NoPlate T.b1_NoPlate T.b2_NoPlate)) s_nil)
      (s_one (s_for (passes_of rfl) rfl (q_ilst (W := wE E) rfl (q_var 0)) (q_nm 3 sc_check_lap.nd) (s_one (s_if (q_tcmp op_gt od_gt (q_bin op_mod od_mod (q_var 1) (q_var 3)) (q_int)) (s_one (s_raise (c := 2) PySem.F.excBase_ValueError rfl (takes_of rfl rfl rfl rfl) T.x_NoPlate T.m_NoPlate T.k_NoPlate T.b1_NoPlate T.b2_NoPlate)) s_nil))))))
theorem ok_check_swing (T : Tx K mg) : FnOk P w (cfg T).K mg base (L2.CX P w) 1 T.f_check_swing T.fd_check_swing ["swing", "rings"] (spT (cfg T) 2 Ev.check_swing) :=
  fnQ (G := cfg T) (N := N_check_swing) (ev := Ev.b_check_swing) T.F_check_swing sc_check_swing (by decide) (fun cdv A outer s H E hr => by
    exact (s_cons (s_if (PW.pt (q_tor (q_tcmp op_ne od_ne (q_call1 call_len cd_len T.n_len PySem.boot_len (q_var 0)) (q_var 1)) (q_tor1 (q_tcmp op_ne od_ne (q_idx rfl (q_var 0) (q_int)) (q_int))))) (s_one (s_raise (c := 2) PySem.F.excBase_ValueError rfl (takes_of rfl rfl rfl rfl) T.x_NoPlate T.m_NoPlate T.k_NoPlate T.b1_NoPlate T.b2_NoPlate)) s_nil)
      (s_cons (s_for (passes_of rfl) rfl (q_irng2 (W := wE E) T.n_range (q_int) (q_var 1)) (q_nm 2 sc_check_swing.nd) (s_one (s_if (PW.pt (q_tor (q_tnot (q_tchain op_le od_le op_le od_le (q_int) (q_idx rfl (q_var 0) (q_var 2)) (q_glob (d := .int 1000000000) rfl T.m_MOST.choose_spec ⟨_, rfl⟩))) (q_tor1 (q_tcmp op_lt od_lt (q_idx rfl (q_var 0) (q_var 2)) (q_idx rfl (q_var 0) (q_bin op_sub od_sub (q_var 2) (q_int))))))) (s_one (s_raise (c := 2) PySem.F.excBase_ValueError rfl (takes_of rfl rfl rfl rfl) T.x_NoPlate T.m_NoPlate T.k_NoPlate T.b1_NoPlate T.b2_NoPlate)) s_nil)))
      (s_one (s_for (passes_of rfl) rfl (q_irng2 (W := wE E) T.n_range (q_int) (q_var 1)) (q_nm 3 sc_check_swing.nd) (s_one (s_for (passes_of rfl) rfl (q_irng2 (W := wE E) T.n_range (q_var 3) (q_bin op_sub od_sub (q_var 1) (q_var 3))) (q_nm 4 sc_check_swing.nd) (s_one (s_if (q_tcmp op_gt od_gt (q_idx rfl (q_var 0) (q_bin op_add od_add (q_var 3) (q_var 4))) (q_bin op_add od_add (q_idx rfl (q_var 0) (q_var 3)) (q_idx rfl (q_var 0) (q_var 4)))) (s_one (s_raise (c := 2) PySem.F.excBase_ValueError rfl (takes_of rfl rfl rfl rfl) T.x_NoPlate T.m_NoPlate T.k_NoPlate T.b1_NoPlate T.b2_NoPlate)) s_nil)))))))))
theorem ok_Plate_init (T : Tx K mg) : FnOk P w (cfg T).K mg base (L2.CX P w) 2 T.f_Plate_init T.fd_Plate_init ["self", "zones", "lap", "skew", "swing"] (spI (cfg T) 0 4 false Ev.Plate_init) :=
  initQ (G := cfg T) (N := N_Plate_init) (ev := Ev.b_Plate_init) false T.F_Plate_init sc_Plate_init (by decide) (by decide) (fun _ => rfl) (fun cdv A outer s H E hr => by
    exact (s_cons (s_fld (i := 0) (k := 0) rfl T.ok_Plate (q_call (ok_ring_counts T) (hr.mono (by decide)) T.m_ring_counts T.k_ring_counts T.b_ring_counts (takes_of rfl rfl rfl rfl) (q_acons (q_var 1) q_anil)))
      (s_cons (s_expr (q_call (ok_check_lap T) (hr.mono (by decide)) T.m_check_lap T.k_check_lap T.b_check_lap (takes_of rfl rfl rfl rfl) (q_acons ((q_fld rfl T.ok_Plate (q_var 0))) (q_acons (q_var 2) (q_acons (q_var 3) q_anil)))))
      (s_cons (s_expr (q_call (ok_check_swing T) (hr.mono (by decide)) T.m_check_swing T.k_check_swing T.b_check_swing (takes_of rfl rfl rfl rfl) (q_acons (q_var 4) (q_acons (q_call1 call_len cd_len T.n_len PySem.boot_len ((q_fld rfl T.ok_Plate (q_var 0)))) q_anil))))
      (s_cons (s_fld (i := 0) (k := 1) rfl T.ok_Plate (q_var 2))
      (s_cons (s_fld (i := 0) (k := 2) rfl T.ok_Plate (q_var 3))
      (s_cons (s_fld (i := 0) (k := 3) rfl T.ok_Plate (q_listOf rfl T.n_list (q_var 4)))
      (s_one (s_fld (i := 0) (k := 4) rfl T.ok_Plate (q_int))))))))))
theorem ok_Plate_rings (T : Tx K mg) : FnOk P w (cfg T).K mg base (L2.CX P w) 1 T.f_Plate_rings T.fd_Plate_rings ["self"] (spT (cfg T) 1 Ev.Plate_rings) :=
  fnQ (G := cfg T) (N := N_Plate_rings) (ev := Ev.b_Plate_rings) T.F_Plate_rings sc_Plate_rings (by decide) (fun cdv A outer s H E hr => by
    exact (s_one (s_ret (q_call1 call_len cd_len T.n_len PySem.boot_len ((q_fld rfl T.ok_Plate (q_var 0)))))))
theorem ok_l_at (T : Tx K mg) : FnOk P w (cfg T).K mg base (L2.CX P w) 1 T.f_l_at T.fd_l_at ["script", "k"] (spT (cfg T) 2 Ev.l_at) :=
  fnQ (G := cfg T) (N := N_l_at) (ev := Ev.b_l_at) T.F_l_at sc_l_at (by decide) (fun cdv A outer s H E hr => by
    exact (s_cons (s_if (q_tcmp op_lt od_lt (q_var 1) (q_call1 call_len cd_len T.n_len PySem.boot_len (q_var 0))) (s_one (s_ret (q_idx rfl (q_var 0) (q_var 1)))) s_nil)
      (s_one (s_ret (q_int)))))
theorem rec_l_same (T : Tx K mg) : ∀ n, FnOk P w (cfg T).K mg base (L2.CX P w) (n + 1) T.f_l_same T.fd_l_same ["found", "due"] (spT (cfg T) 2 (Ev.it_l_same n))
  | 0 => fnBad (ps := ["found", "due"])
  | n + 1 => by
    have ih := rec_l_same T n
    exact FnOk.mono (fnQ (G := cfg T) (N := N_l_same) (k := n + 1) (ev := Ev.b_l_same (Ev.it_l_same n)) T.F_l_same sc_l_same (by decide) (fun cdv A outer s H E hr => by
    exact (s_cons (s_if (PW.pt (q_tor (q_tcmp op_ne od_ne (q_isi isq_tup rfl T.n_isinstance T.n_tuple (q_var 1)) (q_isi isq_tup rfl T.n_isinstance T.n_tuple (q_var 0))) (q_tor1 (q_tcmp op_ne od_ne (q_isi isq_lst rfl T.n_isinstance T.n_list (q_var 1)) (q_isi isq_lst rfl T.n_isinstance T.n_list (q_var 0)))))) (s_one (s_ret (q_bl))) s_nil)
      (s_cons (s_if (q_tst (q_isTL rfl T.n_isinstance T.n_tuple T.n_list (q_var 1))) (s_cons (s_if (q_tcmp op_ne od_ne (q_call1 call_len cd_len T.n_len PySem.boot_len (q_var 0)) (q_call1 call_len cd_len T.n_len PySem.boot_len (q_var 1))) (s_one (s_ret (q_bl))) s_nil)
      (s_cons (s_for (passes_of rfl) rfl (q_irng1 (W := wE E) T.n_range (q_call1 call_len cd_len T.n_len PySem.boot_len (q_var 1))) (q_nm 2 sc_l_same.nd) (s_one (s_if (q_tnot (q_tst (q_call ih (hr.mono (by omega)) T.m_l_same T.k_l_same T.b_l_same (takes_of rfl rfl rfl rfl) (q_acons (q_idx rfl (q_var 0) (q_var 2)) (q_acons (q_idx rfl (q_var 1) (q_var 2)) q_anil))))) (s_one (s_ret (q_bl))) s_nil)))
      (s_one (s_ret (q_bl))))) s_nil)
      (s_cons (s_if (q_tisN (q_var 1)) (s_one (s_ret (q_isN (q_var 0)))) s_nil)
      (s_cons (s_if (PW.pt (q_tor (q_tcmp op_ne od_ne (q_isi isq_bl rfl T.n_isinstance T.n_bool (q_var 1)) (q_isi isq_bl rfl T.n_isinstance T.n_bool (q_var 0))) (q_tor1 (q_tcmp op_ne od_ne (q_isi isq_str rfl T.n_isinstance T.n_str (q_var 1)) (q_isi isq_str rfl T.n_isinstance T.n_str (q_var 0)))))) (s_one (s_ret (q_bl))) s_nil)
      (s_one (s_ret ((q_and (q_cmp op_eq od_eq (q_isi isq_int rfl T.n_isinstance T.n_int (q_var 1)) (q_isi isq_int rfl T.n_isinstance T.n_int (q_var 0))) (q_and1 (q_cmp op_eq od_eq (q_var 0) (q_var 1))))))))))))) (by omega)
theorem ok_l_same (T : Tx K mg) : FnOk P w (cfg T).K mg base (L2.CX P w) 9 T.f_l_same T.fd_l_same ["found", "due"] (spT (cfg T) 2 Ev.l_same) :=
  rec_l_same T 8
theorem ok_l_mix (T : Tx K mg) : FnOk P w (cfg T).K mg base (L2.CX P w) 1 T.f_l_mix T.fd_l_mix ["cell", "k"] (spT (cfg T) 2 Ev.l_mix) :=
  fnQ (G := cfg T) (N := N_l_mix) (ev := Ev.b_l_mix) T.F_l_mix sc_l_mix (by decide) (fun cdv A outer s H E hr => by
    exact (s_cons (s_set (i := 2) sc_l_mix.nd (q_bin op_add od_add (q_bin op_add od_add (q_bin op_mulW od_mul (q_bin op_add od_add (q_bin op_mod od_mod (q_var 0) (q_bin op_pow od_pow (q_int) (q_int))) (q_int)) (q_int)) (q_bin op_mulW od_mul (q_bin op_mulW od_mul (q_var 1) (q_var 1)) (q_int))) (q_bin op_mulW od_mul (q_var 1) (q_int))))
      (s_one (s_ret (q_bin op_mod od_mod (q_bin op_mulW od_mul (q_bin op_mod od_mod (q_var 2) (q_int)) (q_int)) (q_int))))))
theorem ok_l_zones (T : Tx K mg) : FnOk P w (cfg T).K mg base (L2.CX P w) 2 T.f_l_zones T.fd_l_zones ["a", "b"] (spT (cfg T) 2 Ev.l_zones) :=
  fnQ (G := cfg T) (N := N_l_zones) (ev := Ev.b_l_zones) T.F_l_zones sc_l_zones (by decide) (fun cdv A outer s H E hr => by
    exact (s_cons (s_if (q_tcmp op_eq od_eq (q_bin op_mod od_mod (q_call (ok_l_mix T) (hr.mono (by decide)) T.m_l_mix T.k_l_mix T.b_l_mix (takes_of rfl rfl rfl rfl) (q_acons (q_var 1) (q_acons (q_int) q_anil))) (q_int)) (q_int)) (s_one (s_ret (q_lc rfl sc_l_zones.nd (q_irng1 (W := wE E) T.n_range (q_int)) (blkOk_by (own := [("k", 4)]) (N := N_l_zones) (sc := defScope s_l_zones) (by decide +kernel)) (fun _ _ _ _ _ => (q_nm 4 sc_l_zones.nd)) (fun _ _ _ _ _ => q_ptsnil) (fun _ _ _ _ _ => (q_tup (q_acons (q_bin op_sub od_sub (q_int) (q_bin op_mulW od_mul (q_bin op_mod od_mod (q_call (ok_l_mix T) (hr.mono (by decide)) T.m_l_mix T.k_l_mix T.b_l_mix takes0 (q_acons (q_var 0) (q_acons (q_bin op_add od_add (q_int) (q_var 4)) q_anil))) (q_int)) (q_var 4))) (q_acons (q_bin op_add od_add (q_int) (q_bin op_mod od_mod (q_call (ok_l_mix T) (hr.mono (by decide)) T.m_l_mix T.k_l_mix T.b_l_mix takes0 (q_acons (q_var 1) (q_acons (q_bin op_add od_add (q_int) (q_var 4)) q_anil))) (q_int))) q_anil))))))) s_nil)
      (s_cons (s_if (q_tcmp op_eq od_eq (q_bin op_mod od_mod (q_call (ok_l_mix T) (hr.mono (by decide)) T.m_l_mix T.k_l_mix T.b_l_mix (takes_of rfl rfl rfl rfl) (q_acons (q_var 1) (q_acons (q_int) q_anil))) (q_int)) (q_int)) (s_one (s_ret (q_lst (q_acons (q_tup (q_acons (q_bin op_add od_add (q_int) (q_bin op_mod od_mod (q_call (ok_l_mix T) (hr.mono (by decide)) T.m_l_mix T.k_l_mix T.b_l_mix (takes_of rfl rfl rfl rfl) (q_acons (q_var 0) (q_acons (q_int) q_anil))) (q_int))) (q_acons (q_bin op_add od_add (q_int) (q_bin op_mod od_mod (q_call (ok_l_mix T) (hr.mono (by decide)) T.m_l_mix T.k_l_mix T.b_l_mix (takes_of rfl rfl rfl rfl) (q_acons (q_var 1) (q_acons (q_int) q_anil))) (q_int))) q_anil))) q_anil)))) s_nil)
      (s_cons (s_set (i := 2) sc_l_zones.nd (q_bin op_add od_add (q_int) (q_bin op_mod od_mod (q_call (ok_l_mix T) (hr.mono (by decide)) T.m_l_mix T.k_l_mix T.b_l_mix (takes_of rfl rfl rfl rfl) (q_acons (q_var 0) (q_acons (q_int) q_anil))) (q_int))))
      (s_cons (s_if (q_tcmp op_eq od_eq (q_bin op_mod od_mod (q_call (ok_l_mix T) (hr.mono (by decide)) T.m_l_mix T.k_l_mix T.b_l_mix (takes_of rfl rfl rfl rfl) (q_acons (q_var 0) (q_acons (q_int) q_anil))) (q_int)) (q_int)) (s_one (s_set (i := 2) sc_l_zones.nd (q_int))) s_nil)
      (s_cons (s_hot (i := 3) sc_l_zones.nd (q_lst (q_acons (q_tup (q_acons (q_bin op_add od_add (q_int) (q_bin op_mod od_mod (q_call (ok_l_mix T) (hr.mono (by decide)) T.m_l_mix T.k_l_mix T.b_l_mix (takes_of rfl rfl rfl rfl) (q_acons (q_var 0) (q_acons (q_int) q_anil))) (q_int))) (q_acons (q_bin op_add od_add (q_int) (q_bin op_mod od_mod (q_call (ok_l_mix T) (hr.mono (by decide)) T.m_l_mix T.k_l_mix T.b_l_mix (takes_of rfl rfl rfl rfl) (q_acons (q_var 1) (q_acons (q_int) q_anil))) (q_int))) q_anil))) q_anil)))
      (s_cons (s_for (passes_of rfl) rfl (q_irng2 (W := wE E) T.n_range (q_int) (q_var 2)) (q_nm 4 sc_l_zones.nd) (s_one (s_app (i := 3) (q_tup (q_acons (q_bin op_add od_add (q_int) (q_bin op_mod od_mod (q_call (ok_l_mix T) (hr.mono (by decide)) T.m_l_mix T.k_l_mix T.b_l_mix (takes_of rfl rfl rfl rfl) (q_acons (q_var 0) (q_acons (q_bin op_add od_add (q_int) (q_var 4)) q_anil))) (q_int))) (q_acons (q_bin op_add od_add (q_int) (q_bin op_mod od_mod (q_call (ok_l_mix T) (hr.mono (by decide)) T.m_l_mix T.k_l_mix T.b_l_mix (takes_of rfl rfl rfl rfl) (q_acons (q_var 1) (q_acons (q_var 4) q_anil))) (q_int))) q_anil))))))
      (s_one (s_ret (q_var 3))))))))))
theorem ok_l_counts (T : Tx K mg) : FnOk P w (cfg T).K mg base (L2.CX P w) 1 T.f_l_counts T.fd_l_counts ["zones"] (spT (cfg T) 1 Ev.l_counts) :=
  fnQ (G := cfg T) (N := N_l_counts) (ev := Ev.b_l_counts) T.F_l_counts sc_l_counts (by decide) (fun cdv A outer s H E hr => by
    exact (s_cons (s_hot (i := 1) sc_l_counts.nd (q_lst q_anil))
      (s_cons (s_for (passes_of rfl) rfl (q_ilst (W := wE E) rfl (q_var 0)) (q_tp rfl rfl (q_gcons (q_nm 2 sc_l_counts.nd) (q_gcons (q_nm 3 sc_l_counts.nd) q_gnil))) (s_one (s_ext (i := 1) (q_rep (q_lst (q_acons (q_var 3) q_anil)) (q_var 2)))))
      (s_one (s_ret (q_var 1))))))
theorem ok_l_lap (T : Tx K mg) : FnOk P w (cfg T).K mg base (L2.CX P w) 2 T.f_l_lap T.fd_l_lap ["zones", "cell"] (spT (cfg T) 2 Ev.l_lap) :=
  fnQ (G := cfg T) (N := N_l_lap) (ev := Ev.b_l_lap) T.F_l_lap sc_l_lap (by decide) (fun cdv A outer s H E hr => by
    exact (s_cons (s_set (i := 2) sc_l_lap.nd (q_int))
      (s_cons (s_for (passes_of rfl) rfl (q_ilst (W := wE E) rfl (q_var 0)) (q_tp rfl rfl (q_gcons (q_nm 3 sc_l_lap.nd) (q_gcons (q_nm 4 sc_l_lap.nd) q_gnil))) (s_one (s_set (i := 2) sc_l_lap.nd (q_bin op_mulW od_mul (q_var 2) (q_var 4)))))
      (s_cons (s_set (i := 5) sc_l_lap.nd (q_int))
      (s_cons (s_if (q_tcmp op_eq od_eq (q_bin op_mod od_mod (q_call (ok_l_mix T) (hr.mono (by decide)) T.m_l_mix T.k_l_mix T.b_l_mix (takes_of rfl rfl rfl rfl) (q_acons (q_var 1) (q_acons (q_int) q_anil))) (q_int)) (q_int)) (s_one (s_set (i := 5) sc_l_lap.nd (q_bin op_fdivW od_div (q_bin op_pow od_pow (q_int) (q_int)) (q_var 2)))) s_nil)
      (s_one (s_ret (q_bin op_mulW od_mul (q_var 2) (q_bin op_add od_add (q_int) (q_bin op_mod od_mod (q_call (ok_l_mix T) (hr.mono (by decide)) T.m_l_mix T.k_l_mix T.b_l_mix (takes_of rfl rfl rfl rfl) (q_acons (q_var 1) (q_acons (q_int) q_anil))) (q_var 5)))))))))))
theorem ok_l_swing (T : Tx K mg) : FnOk P w (cfg T).K mg base (L2.CX P w) 2 T.f_l_swing T.fd_l_swing ["many", "cell"] (spT (cfg T) 2 Ev.l_swing) :=
  fnQ (G := cfg T) (N := N_l_swing) (ev := Ev.b_l_swing) T.F_l_swing sc_l_swing (by decide) (fun cdv A outer s H E hr => by
    exact (s_cons (s_if (q_tcmp op_eq od_eq (q_bin op_mod od_mod (q_call (ok_l_mix T) (hr.mono (by decide)) T.m_l_mix T.k_l_mix T.b_l_mix (takes_of rfl rfl rfl rfl) (q_acons (q_var 1) (q_acons (q_int) q_anil))) (q_int)) (q_int)) (s_cons (s_set (i := 2) sc_l_swing.nd (q_bin op_add od_add (q_int) (q_bin op_mod od_mod (q_call (ok_l_mix T) (hr.mono (by decide)) T.m_l_mix T.k_l_mix T.b_l_mix (takes_of rfl rfl rfl rfl) (q_acons (q_var 1) (q_acons (q_int) q_anil))) (q_int))))
      (s_cons (s_if (q_tcmp op_eq od_eq (q_bin op_mod od_mod (q_call (ok_l_mix T) (hr.mono (by decide)) T.m_l_mix T.k_l_mix T.b_l_mix (takes_of rfl rfl rfl rfl) (q_acons (q_var 1) (q_acons (q_int) q_anil))) (q_int)) (q_int)) (s_one (s_set (i := 2) sc_l_swing.nd (q_bin op_add od_add (q_int) (q_bin op_mod od_mod (q_call (ok_l_mix T) (hr.mono (by decide)) T.m_l_mix T.k_l_mix T.b_l_mix (takes_of rfl rfl rfl rfl) (q_acons (q_var 1) (q_acons (q_int) q_anil))) (q_bin op_mulW od_mul (q_int) (q_bin op_pow od_pow (q_int) (q_int))))))) s_nil)
      (s_cons (s_hot (i := 3) sc_l_swing.nd (q_lst (q_acons (q_int) (q_acons (q_var 2) q_anil))))
      (s_cons (s_for (passes_of rfl) rfl (q_irng2 (W := wE E) T.n_range (q_int) (q_var 0)) (q_nm 4 sc_l_swing.nd) (s_cons (s_set (i := 2) sc_l_swing.nd (q_bin op_sub od_sub (q_var 2) (q_bin op_fdivW od_div (q_bin op_mod od_mod (q_call (ok_l_mix T) (hr.mono (by decide)) T.m_l_mix T.k_l_mix T.b_l_mix (takes_of rfl rfl rfl rfl) (q_acons (q_var 1) (q_acons (q_bin op_add od_add (q_var 4) (q_int)) q_anil))) (q_bin op_add od_add (q_var 2) (q_int))) (q_int))))
      (s_one (s_app (i := 3) (q_bin op_add od_add (q_idx rfl (q_var 3) (q_un un_neg ud_neg (q_int))) (q_var 2))))))
      (s_one (s_ret (q_var 3))))))) s_nil)
      (s_cons (s_set (i := 5) sc_l_swing.nd (q_bin op_add od_add (q_int) (q_bin op_mod od_mod (q_call (ok_l_mix T) (hr.mono (by decide)) T.m_l_mix T.k_l_mix T.b_l_mix (takes_of rfl rfl rfl rfl) (q_acons (q_var 1) (q_acons (q_int) q_anil))) (q_bin op_pow od_pow (q_int) (q_int)))))
      (s_one (s_ret (q_cat (q_lst (q_acons (q_int) q_anil)) (q_sortedI rfl T.n_sorted (q_lc rfl sc_l_swing.nd (q_irng2 (W := wE E) T.n_range (q_int) (q_var 0)) (blkOk_by (own := [("k", 4)]) (N := N_l_swing) (sc := defScope s_l_swing) (by decide +kernel)) (fun _ _ _ _ _ => (q_nm 4 sc_l_swing.nd)) (fun _ _ _ _ _ => q_ptsnil) (fun _ _ _ _ _ => (q_bin op_add od_add (q_var 5) (q_bin op_mod od_mod (q_call (ok_l_mix T) (hr.mono (by decide)) T.m_l_mix T.k_l_mix T.b_l_mix takes0 (q_acons (q_var 1) (q_acons (q_bin op_add od_add (q_var 4) (q_int)) q_anil))) (q_bin op_add od_add (q_var 5) (q_int)))))))))))))
theorem ok_l_zones_bad (T : Tx K mg) : FnOk P w (cfg T).K mg base (L2.CX P w) 1 T.f_l_zones_bad T.fd_l_zones_bad ["zones", "fault", "at"] (spT (cfg T) 3 Ev.l_zones_bad) :=
  fnQ (G := cfg T) (N := N_l_zones_bad) (ev := Ev.b_l_zones_bad) T.F_l_zones_bad sc_l_zones_bad (by decide) (fun cdv A outer s H E hr => by
    exact (s_cons (s_hot (i := 3) sc_l_zones_bad.nd (q_listOf rfl T.n_list (q_var 0)))
      (s_cons (s_if (q_tcmp op_eq od_eq (q_var 1) (q_int)) (s_one (s_ret (q_lst q_anil))) s_nil)
      (s_cons (s_if (q_tcmp op_eq od_eq (q_var 1) (q_int)) (s_one (s_ret (q_cat (q_var 3) (q_rep (q_lst (q_acons (q_tup (q_acons (q_int) (q_acons (q_int) q_anil))) q_anil)) (q_bin op_sub od_sub (q_int) (q_call1 call_len cd_len T.n_len PySem.boot_len (q_var 3))))))) s_nil)
      (s_cons (s_if (PW.pt (q_tor (q_tcmp op_eq od_eq (q_var 1) (q_int)) (q_tor1 (q_tcmp op_eq od_eq (q_var 1) (q_int))))) (s_one (s_put (i := 3) (q_tup (q_acons (q_idx rfl (q_lst (q_acons (q_int) (q_acons (q_int) q_anil))) (q_bin op_sub od_sub (q_var 1) (q_int))) (q_acons (q_idx rfl (q_idx rfl (q_var 3) (q_var 2)) (q_int)) q_anil))) (q_var 2))) s_nil)
      (s_cons (s_if (PW.pt (q_tor (q_tcmp op_eq od_eq (q_var 1) (q_int)) (q_tor1 (q_tcmp op_eq od_eq (q_var 1) (q_int))))) (s_one (s_put (i := 3) (q_tup (q_acons (q_idx rfl (q_idx rfl (q_var 3) (q_var 2)) (q_int)) (q_acons (q_idx rfl (q_lst (q_acons (q_int) (q_acons (q_int) q_anil))) (q_bin op_sub od_sub (q_var 1) (q_int))) q_anil))) (q_var 2))) s_nil)
      (s_cons (s_if (q_tcmp op_eq od_eq (q_var 1) (q_int)) (s_one (s_ret (q_lst (q_acons (q_tup (q_acons (q_int) (q_acons (q_idx rfl (q_idx rfl (q_var 0) (q_int)) (q_int)) q_anil))) q_anil)))) s_nil)
      (s_cons (s_if (q_tcmp op_eq od_eq (q_var 1) (q_int)) (s_one (s_ret (q_lst (q_acons (q_tup (q_acons (q_int) (q_acons (q_int) q_anil))) (q_acons (q_tup (q_acons (q_int) (q_acons (q_int) q_anil))) (q_acons (q_tup (q_acons (q_int) (q_acons (q_int) q_anil))) (q_acons (q_tup (q_acons (q_int) (q_acons (q_int) q_anil))) q_anil))))))) s_nil)
      (s_one (s_ret (q_var 3)))))))))))
theorem ok_l_swing_bad (T : Tx K mg) : FnOk P w (cfg T).K mg base (L2.CX P w) 1 T.f_l_swing_bad T.fd_l_swing_bad ["swing", "fault", "at"] (spT (cfg T) 3 Ev.l_swing_bad) :=
  fnQ (G := cfg T) (N := N_l_swing_bad) (ev := Ev.b_l_swing_bad) T.F_l_swing_bad sc_l_swing_bad (by decide) (fun cdv A outer s H E hr => by
    exact (s_cons (s_hot (i := 3) sc_l_swing_bad.nd (q_listOf rfl T.n_list (q_var 0)))
      (s_cons (s_if (q_tcmp op_eq od_eq (q_var 1) (q_int)) (s_one (s_ret (q_slice rfl (q_var 3) q_onone (q_osome (W := wE E) (q_un un_neg ud_neg (q_int)))))) s_nil)
      (s_cons (s_if (q_tcmp op_eq od_eq (q_var 1) (q_int)) (s_one (s_ret (q_cat (q_var 3) (q_lst (q_acons (q_idx rfl (q_var 3) (q_un un_neg ud_neg (q_int))) q_anil))))) s_nil)
      (s_cons (s_if (q_tcmp op_eq od_eq (q_var 1) (q_int)) (s_one (s_put (i := 3) (q_int) (q_int))) s_nil)
      (s_cons (s_if (q_tcmp op_eq od_eq (q_var 1) (q_int)) (s_one (s_put (i := 3) (q_int) (q_bin op_add od_add (q_int) (q_bin op_mod od_mod (q_var 2) (q_bin op_sub od_sub (q_call1 call_len cd_len T.n_len PySem.boot_len (q_var 3)) (q_int)))))) s_nil)
      (s_cons (s_if (PW.pt (q_tand (q_tcmp op_eq od_eq (q_var 1) (q_int)) (q_tand1 (q_tcmp op_gt od_gt (q_call1 call_len cd_len T.n_len PySem.boot_len (q_var 3)) (q_int))))) (s_cons (s_set (i := 2) sc_l_swing_bad.nd (q_bin op_add od_add (q_int) (q_bin op_mod od_mod (q_var 2) (q_bin op_sub od_sub (q_call1 call_len cd_len T.n_len PySem.boot_len (q_var 3)) (q_int)))))
      (s_one (s_put (i := 3) (q_bin op_sub od_sub (q_idx rfl (q_var 3) (q_bin op_sub od_sub (q_var 2) (q_int))) (q_int)) (q_var 2)))) s_nil)
      (s_cons (s_if (PW.pt (q_tand (q_tcmp op_eq od_eq (q_var 1) (q_int)) (q_tand1 (q_tcmp op_eq od_eq (q_call1 call_len cd_len T.n_len PySem.boot_len (q_var 3)) (q_int))))) (s_one (s_put (i := 3) (q_bin op_add od_add (q_bin op_pow od_pow (q_int) (q_int)) (q_int)) (q_int))) s_nil)
      (s_cons (s_if (q_tcmp op_eq od_eq (q_var 1) (q_int)) (s_cons (s_set (i := 4) sc_l_swing_bad.nd (q_bin op_add od_add (q_int) (q_bin op_mod od_mod (q_var 2) (q_bin op_sub od_sub (q_call1 call_len cd_len T.n_len PySem.boot_len (q_var 3)) (q_int)))))
      (s_cons (s_set (i := 5) sc_l_swing_bad.nd (q_bin op_add od_add (q_int) (q_bin op_mod od_mod (q_bin op_fdivW od_div (q_var 2) (q_int)) (q_bin op_fdivW od_div (q_var 4) (q_int)))))
      (s_cons (s_put (i := 3) (q_bin op_add od_add (q_bin op_add od_add (q_idx rfl (q_var 3) (q_var 5)) (q_idx rfl (q_var 3) (q_bin op_sub od_sub (q_var 4) (q_var 5)))) (q_int)) (q_var 4))
      (s_one (s_hot (i := 3) sc_l_swing_bad.nd (q_cat (q_slice rfl (q_var 3) q_onone (q_osome (W := wE E) (q_bin op_add od_add (q_var 4) (q_int)))) (q_lc rfl sc_l_swing_bad.nd (q_ilst (W := wE E) rfl (q_slice rfl (q_var 3) (q_osome (W := wE E) (q_bin op_add od_add (q_var 4) (q_int))) q_onone)) (blkOk_by (own := [("number", 6)]) (N := N_l_swing_bad) (sc := defScope s_l_swing_bad) (by decide +kernel)) (fun _ _ _ _ _ => (q_nm 6 sc_l_swing_bad.nd)) (fun _ _ _ _ _ => q_ptsnil) (fun _ _ _ _ _ => (q_call2 (call_max2 rfl) cd_max2 T.n_max (by decide +kernel) (q_var 6) (q_idx rfl (q_var 3) (q_var 4))))))))))) s_nil)
      (s_one (s_ret (q_var 3))))))))))))
theorem ok_l_refused (T : Tx K mg) : FnOk P w (cfg T).K mg base (L2.CX P w) 4 T.f_l_refused T.fd_l_refused ["zones", "lap", "skew", "swing"] (spT (cfg T) 4 Ev.l_refused) :=
  fnQ (G := cfg T) (N := N_l_refused) (ev := Ev.b_l_refused) T.F_l_refused sc_l_refused (by decide) (fun cdv A outer s H E hr => by
    exact (s_cons (s_set (i := 4) sc_l_refused.nd (q_lst q_anil))
      (s_cons (s_tryX (i := 5) (c := .ref T.C_ArmError) (exm_cons T.ex_NoPlate_ArmError exm_nil) rfl rfl sc_l_refused.nd rfl rfl ⟨rfl, by decide, Or.inl T.m_ArmError⟩ (takes_of rfl rfl rfl rfl) (fun _ pn xe tkx psx => (s_one (s_expr (q_mkN (c := 0) T.mk_Plate (ok_Plate_init T) Ev.Plate_init_obj (hr.mono (by decide)) T.m_Plate T.b_Plate_init tkx (q_acons (q_var 0) (q_acons (q_var 1) (q_acons (q_var 2) (q_acons (q_var 3) q_anil)))))))) (fun ea eoe ecls ed epn hz hf => (s_cons (s_set (i := 4) sc_l_refused.nd (q_lst (q_acons (q_exis (n := 2) (i := 5) (C := T.C_NoPlate) T.ec_NoPlate hz hf T.kt_NoPlate_NoPlate T.m_NoPlate T.n_isinstance) (q_acons (q_exisB (n := 2) (i := 5) T.ec_NoPlate hz hf T.kt_NoPlate_ValueError T.n_ValueError T.n_isinstance (by decide +kernel)) (q_acons (q_exis (n := 2) (i := 5) (C := T.C_NoCell) T.ec_NoPlate hz hf T.kt_NoPlate_NoCell T.m_NoCell T.n_isinstance) (q_acons (q_exis (n := 2) (i := 5) (C := T.C_NoSpare) T.ec_NoPlate hz hf T.kt_NoPlate_NoSpare T.m_NoSpare T.n_isinstance) q_anil))))))
      (s_cons (s_set (i := 4) sc_l_refused.nd (q_cat (q_var 4) (q_lst (q_acons (q_exis (n := 2) (i := 5) (C := T.C_NoAsk) T.ec_NoPlate hz hf T.kt_NoPlate_NoAsk T.m_NoAsk T.n_isinstance) (q_acons (q_exis (n := 2) (i := 5) (C := T.C_NoOrder) T.ec_NoPlate hz hf T.kt_NoPlate_NoOrder T.m_NoOrder T.n_isinstance) (q_acons (q_exis (n := 2) (i := 5) (C := T.C_NoRule) T.ec_NoPlate hz hf T.kt_NoPlate_NoRule T.m_NoRule T.n_isinstance) (q_acons (q_exis (n := 2) (i := 5) (C := T.C_TooMany) T.ec_NoPlate hz hf T.kt_NoPlate_TooMany T.m_TooMany T.n_isinstance) q_anil)))))))
      (s_one (s_set (i := 4) sc_l_refused.nd (q_cat (q_var 4) (q_lst (q_acons (q_exis (n := 2) (i := 5) (C := T.C_NoLine) T.ec_NoPlate hz hf T.kt_NoPlate_NoLine T.m_NoLine T.n_isinstance) (q_acons (q_exis (n := 2) (i := 5) (C := T.C_NoBook) T.ec_NoPlate hz hf T.kt_NoPlate_NoBook T.m_NoBook T.n_isinstance) q_anil))))))))))
      (s_one (s_ret (q_cmp (op_eqD hr.units) od_eqP (q_var 4) (q_cat (q_lst (q_acons (q_bl) (q_acons (q_bl) q_anil))) (q_rep (q_lst (q_acons (q_bl) q_anil)) (q_int)))))))))
theorem ok_law (T : Tx K mg) : FnOk P w (cfg T).K mg base (L2.CX P w) 10 T.f_law T.fd_law ["script"] (spT (cfg T) 1 Ev.law) :=
  fnQ (G := cfg T) (N := N_law) (ev := Ev.b_law) T.F_law sc_law (by decide) (fun cdv A outer s H E hr => by
    exact (s_cons (s_set (i := 1) sc_law.nd (q_call (ok_l_zones T) (hr.mono (by decide)) T.m_l_zones T.k_l_zones T.b_l_zones (takes_of rfl rfl rfl rfl) (q_acons (q_call (ok_l_at T) (hr.mono (by decide)) T.m_l_at T.k_l_at T.b_l_at (takes_of rfl rfl rfl rfl) (q_acons (q_var 0) (q_acons (q_int) q_anil))) (q_acons (q_call (ok_l_at T) (hr.mono (by decide)) T.m_l_at T.k_l_at T.b_l_at (takes_of rfl rfl rfl rfl) (q_acons (q_var 0) (q_acons (q_int) q_anil))) q_anil))))
      (s_cons (s_set (i := 2) sc_law.nd (q_call (ok_l_counts T) (hr.mono (by decide)) T.m_l_counts T.k_l_counts T.b_l_counts (takes_of rfl rfl rfl rfl) (q_acons (q_var 1) q_anil)))
      (s_cons (s_set (i := 3) sc_law.nd (q_call (ok_l_lap T) (hr.mono (by decide)) T.m_l_lap T.k_l_lap T.b_l_lap (takes_of rfl rfl rfl rfl) (q_acons (q_var 1) (q_acons (q_call (ok_l_at T) (hr.mono (by decide)) T.m_l_at T.k_l_at T.b_l_at (takes_of rfl rfl rfl rfl) (q_acons (q_var 0) (q_acons (q_int) q_anil))) q_anil))))
      (s_cons (s_set (i := 4) sc_law.nd (q_bin op_mod od_mod (q_call (ok_l_mix T) (hr.mono (by decide)) T.m_l_mix T.k_l_mix T.b_l_mix (takes_of rfl rfl rfl rfl) (q_acons (q_call (ok_l_at T) (hr.mono (by decide)) T.m_l_at T.k_l_at T.b_l_at (takes_of rfl rfl rfl rfl) (q_acons (q_var 0) (q_acons (q_int) q_anil))) (q_acons (q_int) q_anil))) (q_var 3)))
      (s_cons (s_set (i := 5) sc_law.nd (q_call (ok_l_swing T) (hr.mono (by decide)) T.m_l_swing T.k_l_swing T.b_l_swing (takes_of rfl rfl rfl rfl) (q_acons (q_call1 call_len cd_len T.n_len PySem.boot_len (q_var 2)) (q_acons (q_call (ok_l_at T) (hr.mono (by decide)) T.m_l_at T.k_l_at T.b_l_at (takes_of rfl rfl rfl rfl) (q_acons (q_var 0) (q_acons (q_int) q_anil))) q_anil))))
      (s_cons (s_if (q_tnot (q_tst (q_call (ok_l_same T) (hr.mono (by decide)) T.m_l_same T.k_l_same T.b_l_same (takes_of rfl rfl rfl rfl) (q_acons ((q_meth0 rfl T.ok_Plate (q_mkN (c := 0) T.mk_Plate (ok_Plate_init T) Ev.Plate_init_obj (hr.mono (by decide)) T.m_Plate T.b_Plate_init (takes_of rfl rfl rfl rfl) (q_acons (q_var 1) (q_acons (q_var 3) (q_acons (q_var 4) (q_acons (q_var 5) q_anil))))) T.mt_Plate_rings (ok_Plate_rings T) (hr.mono (by decide)) T.b_Plate_rings (takes_of rfl rfl rfl rfl) (hnm := nm_Plate_rings))) (q_acons (q_call1 call_len cd_len T.n_len PySem.boot_len (q_var 2)) q_anil))))) (s_one (s_ret (q_bl))) s_nil)
      (s_cons (s_set (i := 6) sc_law.nd (q_bin op_mod od_mod (q_call (ok_l_mix T) (hr.mono (by decide)) T.m_l_mix T.k_l_mix T.b_l_mix (takes_of rfl rfl rfl rfl) (q_acons (q_call (ok_l_at T) (hr.mono (by decide)) T.m_l_at T.k_l_at T.b_l_at (takes_of rfl rfl rfl rfl) (q_acons (q_var 0) (q_acons (q_int) q_anil))) (q_acons (q_int) q_anil))) (q_int)))
      (s_cons (s_set (i := 7) sc_law.nd (q_call (ok_l_mix T) (hr.mono (by decide)) T.m_l_mix T.k_l_mix T.b_l_mix (takes_of rfl rfl rfl rfl) (q_acons (q_call (ok_l_at T) (hr.mono (by decide)) T.m_l_at T.k_l_at T.b_l_at (takes_of rfl rfl rfl rfl) (q_acons (q_var 0) (q_acons (q_int) q_anil))) (q_acons (q_int) q_anil))))
      (s_cons (s_if (PW.pt (q_tand (q_tcmp op_eq od_eq (q_var 6) (q_int)) (q_tand1 (q_tcmp op_eq od_eq (q_call1 call_len cd_len T.n_len PySem.boot_len (q_var 5)) (q_int))))) (s_one (s_set (i := 6) sc_law.nd (q_int))) s_nil)
      (s_cons (s_set (i := 8) sc_law.nd (q_call (ok_l_zones_bad T) (hr.mono (by decide)) T.m_l_zones_bad T.k_l_zones_bad T.b_l_zones_bad (takes_of rfl rfl rfl rfl) (q_acons (q_var 1) (q_acons (q_var 6) (q_acons (q_bin op_mod od_mod (q_var 7) (q_call1 call_len cd_len T.n_len PySem.boot_len (q_var 1))) q_anil)))))
      (s_cons (s_set (i := 9) sc_law.nd (q_call (ok_l_swing_bad T) (hr.mono (by decide)) T.m_l_swing_bad T.k_l_swing_bad T.b_l_swing_bad (takes_of rfl rfl rfl rfl) (q_acons (q_var 5) (q_acons (q_var 6) (q_acons (q_var 7) q_anil)))))
      (s_cons (s_if (PW.pt (q_tor (q_tcmp op_eq od_eq (q_var 6) (q_int)) (q_tor1 (q_tcmp op_eq od_eq (q_var 6) (q_int))))) (s_one (s_set (i := 9) sc_law.nd (q_cat (q_lst (q_acons (q_int) q_anil)) (q_rep (q_lst (q_acons (q_int) q_anil)) (q_bin op_sub od_sub (q_call1 call_len cd_len T.n_len PySem.boot_len (q_call (ok_l_counts T) (hr.mono (by decide)) T.m_l_counts T.k_l_counts T.b_l_counts (takes_of rfl rfl rfl rfl) (q_acons (q_var 8) q_anil))) (q_int)))))) s_nil)
      (s_cons (s_if (q_tcmp op_eq od_eq (q_var 6) (q_int)) (s_one (s_ret ((q_and (q_call (ok_l_refused T) (hr.mono (by decide)) T.m_l_refused T.k_l_refused T.b_l_refused (takes_of rfl rfl rfl rfl) (q_acons (q_var 8) (q_acons (q_int) (q_acons (q_int) (q_acons (q_var 9) q_anil))))) (q_and1 (q_call (ok_l_refused T) (hr.mono (by decide)) T.m_l_refused T.k_l_refused T.b_l_refused (takes_of rfl rfl rfl rfl) (q_acons (q_var 8) (q_acons (q_bin op_mulW od_mul (q_bin op_add od_add (q_bin op_fdivW od_div (q_bin op_pow od_pow (q_int) (q_int)) (q_var 3)) (q_int)) (q_var 3)) (q_acons (q_var 4) (q_acons (q_var 9) q_anil)))))))))) s_nil)
      (s_cons (s_if (PW.pt (q_tand (q_tcmp op_eq od_eq (q_var 6) (q_int)) (q_tand1 (q_tcmp op_gt od_gt (q_call1 (cr_max rfl) cd_max T.n_max (by decide +kernel) (q_var 2)) (q_int))))) (s_one (s_ret (q_call (ok_l_refused T) (hr.mono (by decide)) T.m_l_refused T.k_l_refused T.b_l_refused (takes_of rfl rfl rfl rfl) (q_acons (q_var 8) (q_acons (q_bin op_add od_add (q_var 3) (q_int)) (q_acons (q_var 4) (q_acons (q_var 9) q_anil))))))) s_nil)
      (s_cons (s_if (PW.pt (q_tor (q_tcmp op_eq od_eq (q_var 6) (q_int)) (q_tor1 (q_tcmp op_eq od_eq (q_var 6) (q_int))))) (s_one (s_ret (q_call (ok_l_refused T) (hr.mono (by decide)) T.m_l_refused T.k_l_refused T.b_l_refused (takes_of rfl rfl rfl rfl) (q_acons (q_var 8) (q_acons (q_var 3) (q_acons (q_bin op_sub od_sub (q_un un_neg ud_neg (q_int)) (q_var 7)) (q_acons (q_var 9) q_anil))))))) s_nil)
      (s_cons (s_if (q_tcmp op_eq od_eq (q_var 6) (q_int)) (s_one (s_ret (q_call (ok_l_refused T) (hr.mono (by decide)) T.m_l_refused T.k_l_refused T.b_l_refused (takes_of rfl rfl rfl rfl) (q_acons (q_var 8) (q_acons (q_var 3) (q_acons (q_bin op_add od_add (q_var 3) (q_bin op_mod od_mod (q_var 7) (q_int))) (q_acons (q_var 9) q_anil))))))) s_nil)
      (s_one (s_ret (q_call (ok_l_refused T) (hr.mono (by decide)) T.m_l_refused T.k_l_refused T.b_l_refused (takes_of rfl rfl rfl rfl) (q_acons (q_var 8) (q_acons (q_var 3) (q_acons (q_var 4) (q_acons (q_var 9) q_anil))))))))))))))))))))))))
set_option autoImplicit true
theorem all_mk {l : PySem.W.OpenLaw} {w : World} {K : PySem.W.Frag} {h : Heap} {mg : Str → Option Value} {fa : Addr}
    (hlaw : ∀ ns : List Int, ns.length ≤ 63 → ∃ c, Ev.law [.frz ns] = .ok (.bl true) c) (X : K.In h) (G : h.Ns mainGlobals mg) (hfa : mg "law" = some (.ref fa))
    (a_ring_counts : PySem.W.nsIn K mainGlobals "ring_counts" = some (some (.ref f_ring_counts)))
    (l_ring_counts : K.lookup f_ring_counts = some ⟨oc_ring_counts, od_ring_counts, .func (PySem.W.fnOf "ring_counts" "ring_counts" (defArgs s_ring_counts) (defBody s_ring_counts) (defScope s_ring_counts) .none kV_ring_counts dc_ring_counts pm_ring_counts an_ring_counts cd_ring_counts ct_ring_counts), sl_ring_counts⟩)
    (c_ring_counts : PySem.W.codeIn K cd_ring_counts "ring_counts" = true)
    (k_ring_counts : PySem.W.keepIn K (.ref f_ring_counts) = true)
    (a_check_lap : PySem.W.nsIn K mainGlobals "check_lap" = some (some (.ref f_check_lap)))
    (l_check_lap : K.lookup f_check_lap = some ⟨oc_check_lap, od_check_lap, .func (PySem.W.fnOf "check_lap" "check_lap" (defArgs s_check_lap) (defBody s_check_lap) (defScope s_check_lap) .none kV_check_lap dc_check_lap pm_check_lap an_check_lap cd_check_lap ct_check_lap), sl_check_lap⟩)
    (c_check_lap : PySem.W.codeIn K cd_check_lap "check_lap" = true)
    (k_check_lap : PySem.W.keepIn K (.ref f_check_lap) = true)
    (a_check_swing : PySem.W.nsIn K mainGlobals "check_swing" = some (some (.ref f_check_swing)))
    (l_check_swing : K.lookup f_check_swing = some ⟨oc_check_swing, od_check_swing, .func (PySem.W.fnOf "check_swing" "check_swing" (defArgs s_check_swing) (defBody s_check_swing) (defScope s_check_swing) .none kV_check_swing dc_check_swing pm_check_swing an_check_swing cd_check_swing ct_check_swing), sl_check_swing⟩)
    (c_check_swing : PySem.W.codeIn K cd_check_swing "check_swing" = true)
    (k_check_swing : PySem.W.keepIn K (.ref f_check_swing) = true)
    (l_Plate_init : K.lookup f_Plate_init = some ⟨oc_Plate_init, od_Plate_init, .func (PySem.W.fnOf "__init__" "Plate.__init__" (defArgs s_Plate_init) (defBody s_Plate_init) (defScope s_Plate_init) .none kV_Plate_init dc_Plate_init pm_Plate_init an_Plate_init cd_Plate_init ct_Plate_init), sl_Plate_init⟩)
    (c_Plate_init : PySem.W.codeIn K cd_Plate_init "Plate.__init__" = true)
    (k_Plate_init : PySem.W.keepIn K (.ref f_Plate_init) = true)
    (l_Plate_rings : K.lookup f_Plate_rings = some ⟨oc_Plate_rings, od_Plate_rings, .func (PySem.W.fnOf "rings" "Plate.rings" (defArgs s_Plate_rings) (defBody s_Plate_rings) (defScope s_Plate_rings) .none kV_Plate_rings dc_Plate_rings pm_Plate_rings an_Plate_rings cd_Plate_rings ct_Plate_rings), sl_Plate_rings⟩)
    (c_Plate_rings : PySem.W.codeIn K cd_Plate_rings "Plate.rings" = true)
    (k_Plate_rings : PySem.W.keepIn K (.ref f_Plate_rings) = true)
    (a_l_at : PySem.W.nsIn K mainGlobals "_law_at" = some (some (.ref f_l_at)))
    (l_l_at : K.lookup f_l_at = some ⟨oc_l_at, od_l_at, .func (PySem.W.fnOf "_law_at" "_law_at" (defArgs s_l_at) (defBody s_l_at) (defScope s_l_at) .none kV_l_at dc_l_at pm_l_at an_l_at cd_l_at ct_l_at), sl_l_at⟩)
    (c_l_at : PySem.W.codeIn K cd_l_at "_law_at" = true)
    (k_l_at : PySem.W.keepIn K (.ref f_l_at) = true)
    (a_l_same : PySem.W.nsIn K mainGlobals "_law_same" = some (some (.ref f_l_same)))
    (l_l_same : K.lookup f_l_same = some ⟨oc_l_same, od_l_same, .func (PySem.W.fnOf "_law_same" "_law_same" (defArgs s_l_same) (defBody s_l_same) (defScope s_l_same) .none kV_l_same dc_l_same pm_l_same an_l_same cd_l_same ct_l_same), sl_l_same⟩)
    (c_l_same : PySem.W.codeIn K cd_l_same "_law_same" = true)
    (k_l_same : PySem.W.keepIn K (.ref f_l_same) = true)
    (a_l_mix : PySem.W.nsIn K mainGlobals "_law_mix" = some (some (.ref f_l_mix)))
    (l_l_mix : K.lookup f_l_mix = some ⟨oc_l_mix, od_l_mix, .func (PySem.W.fnOf "_law_mix" "_law_mix" (defArgs s_l_mix) (defBody s_l_mix) (defScope s_l_mix) .none kV_l_mix dc_l_mix pm_l_mix an_l_mix cd_l_mix ct_l_mix), sl_l_mix⟩)
    (c_l_mix : PySem.W.codeIn K cd_l_mix "_law_mix" = true)
    (k_l_mix : PySem.W.keepIn K (.ref f_l_mix) = true)
    (a_l_zones : PySem.W.nsIn K mainGlobals "_law_zones" = some (some (.ref f_l_zones)))
    (l_l_zones : K.lookup f_l_zones = some ⟨oc_l_zones, od_l_zones, .func (PySem.W.fnOf "_law_zones" "_law_zones" (defArgs s_l_zones) (defBody s_l_zones) (defScope s_l_zones) .none kV_l_zones dc_l_zones pm_l_zones an_l_zones cd_l_zones ct_l_zones), sl_l_zones⟩)
    (c_l_zones : PySem.W.codeIn K cd_l_zones "_law_zones" = true)
    (k_l_zones : PySem.W.keepIn K (.ref f_l_zones) = true)
    (a_l_counts : PySem.W.nsIn K mainGlobals "_law_counts" = some (some (.ref f_l_counts)))
    (l_l_counts : K.lookup f_l_counts = some ⟨oc_l_counts, od_l_counts, .func (PySem.W.fnOf "_law_counts" "_law_counts" (defArgs s_l_counts) (defBody s_l_counts) (defScope s_l_counts) .none kV_l_counts dc_l_counts pm_l_counts an_l_counts cd_l_counts ct_l_counts), sl_l_counts⟩)
    (c_l_counts : PySem.W.codeIn K cd_l_counts "_law_counts" = true)
    (k_l_counts : PySem.W.keepIn K (.ref f_l_counts) = true)
    (a_l_lap : PySem.W.nsIn K mainGlobals "_law_lap" = some (some (.ref f_l_lap)))
    (l_l_lap : K.lookup f_l_lap = some ⟨oc_l_lap, od_l_lap, .func (PySem.W.fnOf "_law_lap" "_law_lap" (defArgs s_l_lap) (defBody s_l_lap) (defScope s_l_lap) .none kV_l_lap dc_l_lap pm_l_lap an_l_lap cd_l_lap ct_l_lap), sl_l_lap⟩)
    (c_l_lap : PySem.W.codeIn K cd_l_lap "_law_lap" = true)
    (k_l_lap : PySem.W.keepIn K (.ref f_l_lap) = true)
    (a_l_swing : PySem.W.nsIn K mainGlobals "_law_swing" = some (some (.ref f_l_swing)))
    (l_l_swing : K.lookup f_l_swing = some ⟨oc_l_swing, od_l_swing, .func (PySem.W.fnOf "_law_swing" "_law_swing" (defArgs s_l_swing) (defBody s_l_swing) (defScope s_l_swing) .none kV_l_swing dc_l_swing pm_l_swing an_l_swing cd_l_swing ct_l_swing), sl_l_swing⟩)
    (c_l_swing : PySem.W.codeIn K cd_l_swing "_law_swing" = true)
    (k_l_swing : PySem.W.keepIn K (.ref f_l_swing) = true)
    (a_l_zones_bad : PySem.W.nsIn K mainGlobals "_law_zones_bad" = some (some (.ref f_l_zones_bad)))
    (l_l_zones_bad : K.lookup f_l_zones_bad = some ⟨oc_l_zones_bad, od_l_zones_bad, .func (PySem.W.fnOf "_law_zones_bad" "_law_zones_bad" (defArgs s_l_zones_bad) (defBody s_l_zones_bad) (defScope s_l_zones_bad) .none kV_l_zones_bad dc_l_zones_bad pm_l_zones_bad an_l_zones_bad cd_l_zones_bad ct_l_zones_bad), sl_l_zones_bad⟩)
    (c_l_zones_bad : PySem.W.codeIn K cd_l_zones_bad "_law_zones_bad" = true)
    (k_l_zones_bad : PySem.W.keepIn K (.ref f_l_zones_bad) = true)
    (a_l_swing_bad : PySem.W.nsIn K mainGlobals "_law_swing_bad" = some (some (.ref f_l_swing_bad)))
    (l_l_swing_bad : K.lookup f_l_swing_bad = some ⟨oc_l_swing_bad, od_l_swing_bad, .func (PySem.W.fnOf "_law_swing_bad" "_law_swing_bad" (defArgs s_l_swing_bad) (defBody s_l_swing_bad) (defScope s_l_swing_bad) .none kV_l_swing_bad dc_l_swing_bad pm_l_swing_bad an_l_swing_bad cd_l_swing_bad ct_l_swing_bad), sl_l_swing_bad⟩)
    (c_l_swing_bad : PySem.W.codeIn K cd_l_swing_bad "_law_swing_bad" = true)
    (k_l_swing_bad : PySem.W.keepIn K (.ref f_l_swing_bad) = true)
    (a_l_refused : PySem.W.nsIn K mainGlobals "_law_refused" = some (some (.ref f_l_refused)))
    (l_l_refused : K.lookup f_l_refused = some ⟨oc_l_refused, od_l_refused, .func (PySem.W.fnOf "_law_refused" "_law_refused" (defArgs s_l_refused) (defBody s_l_refused) (defScope s_l_refused) .none kV_l_refused dc_l_refused pm_l_refused an_l_refused cd_l_refused ct_l_refused), sl_l_refused⟩)
    (c_l_refused : PySem.W.codeIn K cd_l_refused "_law_refused" = true)
    (k_l_refused : PySem.W.keepIn K (.ref f_l_refused) = true)
    (a_law : PySem.W.nsIn K mainGlobals "law" = some (some (.ref f_law)))
    (l_law : K.lookup f_law = some ⟨oc_law, od_law, .func (PySem.W.fnOf "law" "law" (defArgs s_law) (defBody s_law) (defScope s_law) .none kV_law dc_law pm_law an_law cd_law ct_law), sl_law⟩)
    (c_law : PySem.W.codeIn K cd_law "law" = true)
    (k_law : PySem.W.keepIn K (.ref f_law) = true)
    (a_Plate : PySem.W.nsIn K mainGlobals "Plate" = some (some (.ref C_Plate)))
    (pg_Plate : PySem.W.plainGet K C_Plate Str.empty = true)
    (hd_Plate : PySem.W.hasDictIn K C_Plate = true)
    (po_Plate : PySem.W.plainOver K C_Plate = true)
    (sa_Plate : PySem.W.findIn K (.ref C_Plate) "__setattr__" = some (some (.builtin "object.__setattr__")))
    (no_Plate_counts : PySem.W.findIn K (.ref C_Plate) "counts" = some none)
    (no_Plate_lap : PySem.W.findIn K (.ref C_Plate) "lap" = some none)
    (no_Plate_skew : PySem.W.findIn K (.ref C_Plate) "skew" = some none)
    (no_Plate_swings : PySem.W.findIn K (.ref C_Plate) "swings" = some none)
    (no_Plate_spare : PySem.W.findIn K (.ref C_Plate) "spare" = some none)
    (mk_Plate : PySem.W.makesIn K C_Plate = true)
    (in_Plate : PySem.W.findIn K (.ref C_Plate) "__init__" = some (some (.ref f_Plate_init)))
    (fn_Plate : PySem.W.isFn K (.ref f_Plate_init) = true)
    (kc_Plate : PySem.W.keepIn K (.ref C_Plate) = true)
    (ma_Plate_rings : PySem.W.findIn K (.ref C_Plate) "rings" = some (some (.ref f_Plate_rings)))
    (mf_Plate_rings : PySem.W.isFn K (.ref f_Plate_rings) = true)
    (a_ArmError : PySem.W.nsIn K mainGlobals "ArmError" = some (some (.ref C_ArmError)))
    (a_NoAsk : PySem.W.nsIn K mainGlobals "NoAsk" = some (some (.ref C_NoAsk)))
    (a_NoBook : PySem.W.nsIn K mainGlobals "NoBook" = some (some (.ref C_NoBook)))
    (a_NoCell : PySem.W.nsIn K mainGlobals "NoCell" = some (some (.ref C_NoCell)))
    (a_NoLine : PySem.W.nsIn K mainGlobals "NoLine" = some (some (.ref C_NoLine)))
    (a_NoOrder : PySem.W.nsIn K mainGlobals "NoOrder" = some (some (.ref C_NoOrder)))
    (a_NoPlate : PySem.W.nsIn K mainGlobals "NoPlate" = some (some (.ref C_NoPlate)))
    (a_NoRule : PySem.W.nsIn K mainGlobals "NoRule" = some (some (.ref C_NoRule)))
    (a_NoSpare : PySem.W.nsIn K mainGlobals "NoSpare" = some (some (.ref C_NoSpare)))
    (a_TooMany : PySem.W.nsIn K mainGlobals "TooMany" = some (some (.ref C_TooMany)))
    (x_NoPlate : PySem.W.excIn K C_NoPlate [.type "ValueError", .type "Exception", .type "BaseException", .type "object"] "ValueError.__new__" = true)
    (k_NoPlate : PySem.W.keepIn K (.ref C_NoPlate) = true)
    (b2_NoPlate : PySem.W.typeIn K (.ref C_NoPlate) = some (.type "type"))
    (b1_ArmError : PySem.W.subIn K (.ref C_ArmError) (.type "BaseException") = some true)
    (b1_NoPlate : PySem.W.subIn K (.ref C_NoPlate) (.type "BaseException") = some true)
    (b2_ArmError : PySem.W.typeIn K (.ref C_ArmError) = some (.type "type"))
    (hd_ArmError : PySem.W.hasDictIn K C_ArmError = true)
    (hd_NoPlate : PySem.W.hasDictIn K C_NoPlate = true)
    (su_NoPlate_ArmError : PySem.W.subIn K (.ref C_NoPlate) (.ref C_ArmError) = some true)
    (hg_NoPlate : PySem.W.findIn K (.ref C_NoPlate) "__getattribute__" = some (some (.builtin "BaseException.__getattribute__")))
    (hk_NoPlate : PySem.W.findIn K (.ref C_NoPlate) "__getattr__" = some none)
    (ha_NoPlate : PySem.W.findIn K (.ref C_NoPlate) "__class__" = some (some (.builtin "object.__class__")))
    (hm_NoPlate : PySem.W.mroIn K C_NoPlate (.type "object") = some true)
    (hn_ : PySem.W.specialIn K (.builtin "object.__class__") "__get__" = some (some (.builtin "getset_descriptor.__get__")))
    (ht_ : PySem.W.takesIn K (.builtin "object.__class__") = some true)
    (ks_NoPlate_NoAsk : PySem.W.subIn K (.ref C_NoPlate) (.ref C_NoAsk) = some false)
    (ks_NoPlate_NoBook : PySem.W.subIn K (.ref C_NoPlate) (.ref C_NoBook) = some false)
    (ks_NoPlate_NoCell : PySem.W.subIn K (.ref C_NoPlate) (.ref C_NoCell) = some false)
    (ks_NoPlate_NoLine : PySem.W.subIn K (.ref C_NoPlate) (.ref C_NoLine) = some false)
    (ks_NoPlate_NoOrder : PySem.W.subIn K (.ref C_NoPlate) (.ref C_NoOrder) = some false)
    (ks_NoPlate_NoPlate : PySem.W.subIn K (.ref C_NoPlate) (.ref C_NoPlate) = some true)
    (ks_NoPlate_NoRule : PySem.W.subIn K (.ref C_NoPlate) (.ref C_NoRule) = some false)
    (ks_NoPlate_NoSpare : PySem.W.subIn K (.ref C_NoPlate) (.ref C_NoSpare) = some false)
    (ks_NoPlate_TooMany : PySem.W.subIn K (.ref C_NoPlate) (.ref C_TooMany) = some false)
    (ks_NoPlate_ValueError : PySem.W.subIn K (.ref C_NoPlate) (.type "ValueError") = some true)
    (ss_NoPlate : PySem.W.subIn K (.ref C_NoPlate) (.ref C_NoPlate) = some true)
    (hd_NoAsk : PySem.W.hasDictIn K C_NoAsk = true)
    (b2_NoAsk : PySem.W.typeIn K (.ref C_NoAsk) = some (.type "type"))
    (hd_NoBook : PySem.W.hasDictIn K C_NoBook = true)
    (b2_NoBook : PySem.W.typeIn K (.ref C_NoBook) = some (.type "type"))
    (hd_NoCell : PySem.W.hasDictIn K C_NoCell = true)
    (b2_NoCell : PySem.W.typeIn K (.ref C_NoCell) = some (.type "type"))
    (hd_NoLine : PySem.W.hasDictIn K C_NoLine = true)
    (b2_NoLine : PySem.W.typeIn K (.ref C_NoLine) = some (.type "type"))
    (hd_NoOrder : PySem.W.hasDictIn K C_NoOrder = true)
    (b2_NoOrder : PySem.W.typeIn K (.ref C_NoOrder) = some (.type "type"))
    (hd_NoRule : PySem.W.hasDictIn K C_NoRule = true)
    (b2_NoRule : PySem.W.typeIn K (.ref C_NoRule) = some (.type "type"))
    (hd_NoSpare : PySem.W.hasDictIn K C_NoSpare = true)
    (b2_NoSpare : PySem.W.typeIn K (.ref C_NoSpare) = some (.type "type"))
    (hd_TooMany : PySem.W.hasDictIn K C_TooMany = true)
    (b2_TooMany : PySem.W.typeIn K (.ref C_TooMany) = some (.type "type"))
    (z_ValueError : PySem.W.nsIn K mainGlobals "ValueError" = some none)
    (z_bool : PySem.W.nsIn K mainGlobals "bool" = some none)
    (z_int : PySem.W.nsIn K mainGlobals "int" = some none)
    (z_isinstance : PySem.W.nsIn K mainGlobals "isinstance" = some none)
    (z_len : PySem.W.nsIn K mainGlobals "len" = some none)
    (z_list : PySem.W.nsIn K mainGlobals "list" = some none)
    (z_max : PySem.W.nsIn K mainGlobals "max" = some none)
    (z_range : PySem.W.nsIn K mainGlobals "range" = some none)
    (z_sorted : PySem.W.nsIn K mainGlobals "sorted" = some none)
    (z_str : PySem.W.nsIn K mainGlobals "str" = some none)
    (z_tuple : PySem.W.nsIn K mainGlobals "tuple" = some none)
    (v_MOST : PySem.W.nsIn K mainGlobals "MOST" = some (some (.int 1000000000 t_MOST))) :
    ∃ fd, (∀ s v, BindsTo s fd ⟨[v], []⟩ [("script", v)]) ∧ ∀ base, K.In base → base.Ns mainGlobals mg → FnOk l.prog w K mg base (L2.CX l.prog w) 10 fa fd ["script"] (spLaw K) := by
  have e := hfa.symm.trans (PySem.W.mg_of X G a_law); cases e
  have F_ring_counts := fun_mk (st := s_ring_counts) l_ring_counts c_ring_counts k_ring_counts
  have b_ring_counts := F_ring_counts.binds (ps := ["zones"]) fun _ _ _ _ _ _ us hl => match us, hl with | [_], _ => rfl
  have F_check_lap := fun_mk (st := s_check_lap) l_check_lap c_check_lap k_check_lap
  have b_check_lap := F_check_lap.binds (ps := ["counts", "lap", "skew"]) fun _ _ _ _ _ _ us hl => match us, hl with | [_, _, _], _ => rfl
  have F_check_swing := fun_mk (st := s_check_swing) l_check_swing c_check_swing k_check_swing
  have b_check_swing := F_check_swing.binds (ps := ["swing", "rings"]) fun _ _ _ _ _ _ us hl => match us, hl with | [_, _], _ => rfl
  have F_Plate_init := fun_mk (st := s_Plate_init) l_Plate_init c_Plate_init k_Plate_init
  have b_Plate_init := F_Plate_init.binds (ps := ["self", "zones", "lap", "skew", "swing"]) fun _ _ _ _ _ _ us hl => match us, hl with | [_, _, _, _, _], _ => rfl
  have F_Plate_rings := fun_mk (st := s_Plate_rings) l_Plate_rings c_Plate_rings k_Plate_rings
  have b_Plate_rings := F_Plate_rings.binds (ps := ["self"]) fun _ _ _ _ _ _ us hl => match us, hl with | [_], _ => rfl
  have F_l_at := fun_mk (st := s_l_at) l_l_at c_l_at k_l_at
  have b_l_at := F_l_at.binds (ps := ["script", "k"]) fun _ _ _ _ _ _ us hl => match us, hl with | [_, _], _ => rfl
  have F_l_same := fun_mk (st := s_l_same) l_l_same c_l_same k_l_same
  have b_l_same := F_l_same.binds (ps := ["found", "due"]) fun _ _ _ _ _ _ us hl => match us, hl with | [_, _], _ => rfl
  have F_l_mix := fun_mk (st := s_l_mix) l_l_mix c_l_mix k_l_mix
  have b_l_mix := F_l_mix.binds (ps := ["cell", "k"]) fun _ _ _ _ _ _ us hl => match us, hl with | [_, _], _ => rfl
  have F_l_zones := fun_mk (st := s_l_zones) l_l_zones c_l_zones k_l_zones
  have b_l_zones := F_l_zones.binds (ps := ["a", "b"]) fun _ _ _ _ _ _ us hl => match us, hl with | [_, _], _ => rfl
  have F_l_counts := fun_mk (st := s_l_counts) l_l_counts c_l_counts k_l_counts
  have b_l_counts := F_l_counts.binds (ps := ["zones"]) fun _ _ _ _ _ _ us hl => match us, hl with | [_], _ => rfl
  have F_l_lap := fun_mk (st := s_l_lap) l_l_lap c_l_lap k_l_lap
  have b_l_lap := F_l_lap.binds (ps := ["zones", "cell"]) fun _ _ _ _ _ _ us hl => match us, hl with | [_, _], _ => rfl
  have F_l_swing := fun_mk (st := s_l_swing) l_l_swing c_l_swing k_l_swing
  have b_l_swing := F_l_swing.binds (ps := ["many", "cell"]) fun _ _ _ _ _ _ us hl => match us, hl with | [_, _], _ => rfl
  have F_l_zones_bad := fun_mk (st := s_l_zones_bad) l_l_zones_bad c_l_zones_bad k_l_zones_bad
  have b_l_zones_bad := F_l_zones_bad.binds (ps := ["zones", "fault", "at"]) fun _ _ _ _ _ _ us hl => match us, hl with | [_, _, _], _ => rfl
  have F_l_swing_bad := fun_mk (st := s_l_swing_bad) l_l_swing_bad c_l_swing_bad k_l_swing_bad
  have b_l_swing_bad := F_l_swing_bad.binds (ps := ["swing", "fault", "at"]) fun _ _ _ _ _ _ us hl => match us, hl with | [_, _, _], _ => rfl
  have F_l_refused := fun_mk (st := s_l_refused) l_l_refused c_l_refused k_l_refused
  have b_l_refused := F_l_refused.binds (ps := ["zones", "lap", "skew", "swing"]) fun _ _ _ _ _ _ us hl => match us, hl with | [_, _, _, _], _ => rfl
  have F_law := fun_mk (st := s_law) l_law c_law k_law
  have b_law := F_law.binds (ps := ["script"]) fun _ _ _ _ _ _ us hl => match us, hl with | [_], _ => rfl
  let T : Tx K mg := {
    C_Plate := C_Plate
    f_ring_counts := f_ring_counts
    fd_ring_counts := _
    F_ring_counts := F_ring_counts
    b_ring_counts := b_ring_counts
    m_ring_counts := PySem.W.mg_of X G a_ring_counts
    k_ring_counts := k_ring_counts
    f_check_lap := f_check_lap
    fd_check_lap := _
    F_check_lap := F_check_lap
    b_check_lap := b_check_lap
    m_check_lap := PySem.W.mg_of X G a_check_lap
    k_check_lap := k_check_lap
    f_check_swing := f_check_swing
    fd_check_swing := _
    F_check_swing := F_check_swing
    b_check_swing := b_check_swing
    m_check_swing := PySem.W.mg_of X G a_check_swing
    k_check_swing := k_check_swing
    f_Plate_init := f_Plate_init
    fd_Plate_init := _
    F_Plate_init := F_Plate_init
    b_Plate_init := b_Plate_init
    f_Plate_rings := f_Plate_rings
    fd_Plate_rings := _
    F_Plate_rings := F_Plate_rings
    b_Plate_rings := b_Plate_rings
    f_l_at := f_l_at
    fd_l_at := _
    F_l_at := F_l_at
    b_l_at := b_l_at
    m_l_at := PySem.W.mg_of X G a_l_at
    k_l_at := k_l_at
    f_l_same := f_l_same
    fd_l_same := _
    F_l_same := F_l_same
    b_l_same := b_l_same
    m_l_same := PySem.W.mg_of X G a_l_same
    k_l_same := k_l_same
    f_l_mix := f_l_mix
    fd_l_mix := _
    F_l_mix := F_l_mix
    b_l_mix := b_l_mix
    m_l_mix := PySem.W.mg_of X G a_l_mix
    k_l_mix := k_l_mix
    f_l_zones := f_l_zones
    fd_l_zones := _
    F_l_zones := F_l_zones
    b_l_zones := b_l_zones
    m_l_zones := PySem.W.mg_of X G a_l_zones
    k_l_zones := k_l_zones
    f_l_counts := f_l_counts
    fd_l_counts := _
    F_l_counts := F_l_counts
    b_l_counts := b_l_counts
    m_l_counts := PySem.W.mg_of X G a_l_counts
    k_l_counts := k_l_counts
    f_l_lap := f_l_lap
    fd_l_lap := _
    F_l_lap := F_l_lap
    b_l_lap := b_l_lap
    m_l_lap := PySem.W.mg_of X G a_l_lap
    k_l_lap := k_l_lap
    f_l_swing := f_l_swing
    fd_l_swing := _
    F_l_swing := F_l_swing
    b_l_swing := b_l_swing
    m_l_swing := PySem.W.mg_of X G a_l_swing
    k_l_swing := k_l_swing
    f_l_zones_bad := f_l_zones_bad
    fd_l_zones_bad := _
    F_l_zones_bad := F_l_zones_bad
    b_l_zones_bad := b_l_zones_bad
    m_l_zones_bad := PySem.W.mg_of X G a_l_zones_bad
    k_l_zones_bad := k_l_zones_bad
    f_l_swing_bad := f_l_swing_bad
    fd_l_swing_bad := _
    F_l_swing_bad := F_l_swing_bad
    b_l_swing_bad := b_l_swing_bad
    m_l_swing_bad := PySem.W.mg_of X G a_l_swing_bad
    k_l_swing_bad := k_l_swing_bad
    f_l_refused := f_l_refused
    fd_l_refused := _
    F_l_refused := F_l_refused
    b_l_refused := b_l_refused
    m_l_refused := PySem.W.mg_of X G a_l_refused
    k_l_refused := k_l_refused
    f_law := f_law
    fd_law := _
    F_law := F_law
    b_law := b_law
    m_law := PySem.W.mg_of X G a_law
    k_law := k_law
    c_Plate := ⟨pg_Plate, hd_Plate, po_Plate, sa_Plate⟩
    no_Plate_counts := no_Plate_counts
    no_Plate_lap := no_Plate_lap
    no_Plate_skew := no_Plate_skew
    no_Plate_swings := no_Plate_swings
    no_Plate_spare := no_Plate_spare
    mk_Plate := ⟨mk_Plate, in_Plate, fn_Plate, kc_Plate⟩
    m_Plate := PySem.W.mg_of X G a_Plate
    mt_Plate_rings := ⟨ma_Plate_rings, mf_Plate_rings, k_Plate_rings⟩
    C_ArmError := C_ArmError
    m_ArmError := PySem.W.mg_of X G a_ArmError
    C_NoAsk := C_NoAsk
    m_NoAsk := PySem.W.mg_of X G a_NoAsk
    C_NoBook := C_NoBook
    m_NoBook := PySem.W.mg_of X G a_NoBook
    C_NoCell := C_NoCell
    m_NoCell := PySem.W.mg_of X G a_NoCell
    C_NoLine := C_NoLine
    m_NoLine := PySem.W.mg_of X G a_NoLine
    C_NoOrder := C_NoOrder
    m_NoOrder := PySem.W.mg_of X G a_NoOrder
    C_NoPlate := C_NoPlate
    m_NoPlate := PySem.W.mg_of X G a_NoPlate
    C_NoRule := C_NoRule
    m_NoRule := PySem.W.mg_of X G a_NoRule
    C_NoSpare := C_NoSpare
    m_NoSpare := PySem.W.mg_of X G a_NoSpare
    C_TooMany := C_TooMany
    m_TooMany := PySem.W.mg_of X G a_TooMany
    x_NoPlate := x_NoPlate
    k_NoPlate := k_NoPlate
    b1_NoPlate := b1_NoPlate
    b2_NoPlate := b2_NoPlate
    ec_NoPlate := ⟨hg_NoPlate, hk_NoPlate, b1_NoPlate, hd_NoPlate, ha_NoPlate, hn_, ht_, hm_NoPlate⟩
    ex_NoPlate_ArmError := PySem.W.exm_ref b1_ArmError hd_ArmError b2_ArmError su_NoPlate_ArmError
    kt_NoPlate_NoAsk := kit_ref hd_NoAsk b2_NoAsk ks_NoPlate_NoAsk ss_NoPlate
    kt_NoPlate_NoBook := kit_ref hd_NoBook b2_NoBook ks_NoPlate_NoBook ss_NoPlate
    kt_NoPlate_NoCell := kit_ref hd_NoCell b2_NoCell ks_NoPlate_NoCell ss_NoPlate
    kt_NoPlate_NoLine := kit_ref hd_NoLine b2_NoLine ks_NoPlate_NoLine ss_NoPlate
    kt_NoPlate_NoOrder := kit_ref hd_NoOrder b2_NoOrder ks_NoPlate_NoOrder ss_NoPlate
    kt_NoPlate_NoPlate := kit_ref hd_NoPlate b2_NoPlate ks_NoPlate_NoPlate ss_NoPlate
    kt_NoPlate_NoRule := kit_ref hd_NoRule b2_NoRule ks_NoPlate_NoRule ss_NoPlate
    kt_NoPlate_NoSpare := kit_ref hd_NoSpare b2_NoSpare ks_NoPlate_NoSpare ss_NoPlate
    kt_NoPlate_TooMany := kit_ref hd_TooMany b2_TooMany ks_NoPlate_TooMany ss_NoPlate
    kt_NoPlate_ValueError := kit_blt (by decide +kernel) ks_NoPlate_ValueError
    n_ValueError := PySem.W.mg_none_of X G z_ValueError
    n_bool := PySem.W.mg_none_of X G z_bool
    n_int := PySem.W.mg_none_of X G z_int
    n_isinstance := PySem.W.mg_none_of X G z_isinstance
    n_len := PySem.W.mg_none_of X G z_len
    n_list := PySem.W.mg_none_of X G z_list
    n_max := PySem.W.mg_none_of X G z_max
    n_range := PySem.W.mg_none_of X G z_range
    n_sorted := PySem.W.mg_none_of X G z_sorted
    n_str := PySem.W.mg_none_of X G z_str
    n_tuple := PySem.W.mg_none_of X G z_tuple
    m_MOST := ⟨_, PySem.W.mg_of X G v_MOST⟩ }
  exact ⟨_, fun s v => .of_eq rfl, fun base _ _ => law_end (ok_law T) hlaw⟩
end Wk

set_option Elab.async false
set_option linter.all false
set_option maxRecDepth 100000
set_option maxHeartbeats 8000000
theorem PySem.Challenge.cw_armswing_k04_plates_refused_holds : PySem.Challenge.rw_armswing_k04_plates_refused.Holds := by
  w_on
  o_law
  k_head
  (case hw => w_witness2)
  k_fill
  refine L2.walk_of (l := PySem.Challenge.rw_armswing_k04_plates_refused) (n := 63) (k := 10) (x := "script") (CX := fun w => L2.CX PySem.Challenge.rw_armswing_k04_plates_refused.prog w) (sp := fun w => QW.spLaw _) rfl (by decide) rfl ⟨rfl, by decide, by decide⟩
    (fun w h Y => PySem.W.kIn_of Y) ?F (fun _ _ a ns hl _ hS => ⟨a, ns, rfl, hS, hl, fun _ => rfl⟩) (fun _ _ _ _ _ h => QW.cx_none h)
  case F =>
    intro w mg fa h KX G hmg
    refine' Wk.all_mk Ma.law_true KX G hmg ?a_ring_counts ?l_ring_counts ?c_ring_counts ?k_ring_counts ?a_check_lap ?l_check_lap ?c_check_lap ?k_check_lap ?a_check_swing ?l_check_swing ?c_check_swing ?k_check_swing ?l_Plate_init ?c_Plate_init ?k_Plate_init ?l_Plate_rings ?c_Plate_rings ?k_Plate_rings ?a_l_at ?l_l_at ?c_l_at ?k_l_at ?a_l_same ?l_l_same ?c_l_same ?k_l_same ?a_l_mix ?l_l_mix ?c_l_mix ?k_l_mix ?a_l_zones ?l_l_zones ?c_l_zones ?k_l_zones ?a_l_counts ?l_l_counts ?c_l_counts ?k_l_counts ?a_l_lap ?l_l_lap ?c_l_lap ?k_l_lap ?a_l_swing ?l_l_swing ?c_l_swing ?k_l_swing ?a_l_zones_bad ?l_l_zones_bad ?c_l_zones_bad ?k_l_zones_bad ?a_l_swing_bad ?l_l_swing_bad ?c_l_swing_bad ?k_l_swing_bad ?a_l_refused ?l_l_refused ?c_l_refused ?k_l_refused ?a_law ?l_law ?c_law ?k_law ?a_Plate ?pg_Plate ?hd_Plate ?po_Plate ?sa_Plate ?no_Plate_counts ?no_Plate_lap ?no_Plate_skew ?no_Plate_swings ?no_Plate_spare ?mk_Plate ?in_Plate ?fn_Plate ?kc_Plate ?ma_Plate_rings ?mf_Plate_rings ?a_ArmError ?a_NoAsk ?a_NoBook ?a_NoCell ?a_NoLine ?a_NoOrder ?a_NoPlate ?a_NoRule ?a_NoSpare ?a_TooMany ?x_NoPlate ?k_NoPlate ?b2_NoPlate ?b1_ArmError ?b1_NoPlate ?b2_ArmError ?hd_ArmError ?hd_NoPlate ?su_NoPlate_ArmError ?hg_NoPlate ?hk_NoPlate ?ha_NoPlate ?hm_NoPlate ?hn_ ?ht_ ?ks_NoPlate_NoAsk ?ks_NoPlate_NoBook ?ks_NoPlate_NoCell ?ks_NoPlate_NoLine ?ks_NoPlate_NoOrder ?ks_NoPlate_NoPlate ?ks_NoPlate_NoRule ?ks_NoPlate_NoSpare ?ks_NoPlate_TooMany ?ks_NoPlate_ValueError ?ss_NoPlate ?hd_NoAsk ?b2_NoAsk ?hd_NoBook ?b2_NoBook ?hd_NoCell ?b2_NoCell ?hd_NoLine ?b2_NoLine ?hd_NoOrder ?b2_NoOrder ?hd_NoRule ?b2_NoRule ?hd_NoSpare ?b2_NoSpare ?hd_TooMany ?b2_TooMany ?z_ValueError ?z_bool ?z_int ?z_isinstance ?z_len ?z_list ?z_max ?z_range ?z_sorted ?z_str ?z_tuple ?v_MOST
    (case a_ring_counts => k_is)
    (case a_check_lap => k_is)
    (case a_check_swing => k_is)
    (case a_l_at => k_is)
    (case a_l_same => k_is)
    (case a_l_mix => k_is)
    (case a_l_zones => k_is)
    (case a_l_counts => k_is)
    (case a_l_lap => k_is)
    (case a_l_swing => k_is)
    (case a_l_zones_bad => k_is)
    (case a_l_swing_bad => k_is)
    (case a_l_refused => k_is)
    (case a_law => k_is)
    (case a_Plate => k_is)
    (case a_ArmError => k_is)
    (case a_NoAsk => k_is)
    (case a_NoBook => k_is)
    (case a_NoCell => k_is)
    (case a_NoLine => k_is)
    (case a_NoOrder => k_is)
    (case a_NoPlate => k_is)
    (case a_NoRule => k_is)
    (case a_NoSpare => k_is)
    (case a_TooMany => k_is)
    (case in_Plate => k_is)
    (case ma_Plate_rings => k_is)
    (case l_ring_counts => k_is)
    (case c_ring_counts => k_is)
    (case k_ring_counts => k_is)
    (case l_check_lap => k_is)
    (case c_check_lap => k_is)
    (case k_check_lap => k_is)
    (case l_check_swing => k_is)
    (case c_check_swing => k_is)
    (case k_check_swing => k_is)
    (case l_Plate_init => k_is)
    (case c_Plate_init => k_is)
    (case k_Plate_init => k_is)
    (case l_Plate_rings => k_is)
    (case c_Plate_rings => k_is)
    (case k_Plate_rings => k_is)
    (case l_l_at => k_is)
    (case c_l_at => k_is)
    (case k_l_at => k_is)
    (case l_l_same => k_is)
    (case c_l_same => k_is)
    (case k_l_same => k_is)
    (case l_l_mix => k_is)
    (case c_l_mix => k_is)
    (case k_l_mix => k_is)
    (case l_l_zones => k_is)
    (case c_l_zones => k_is)
    (case k_l_zones => k_is)
    (case l_l_counts => k_is)
    (case c_l_counts => k_is)
    (case k_l_counts => k_is)
    (case l_l_lap => k_is)
    (case c_l_lap => k_is)
    (case k_l_lap => k_is)
    (case l_l_swing => k_is)
    (case c_l_swing => k_is)
    (case k_l_swing => k_is)
    (case l_l_zones_bad => k_is)
    (case c_l_zones_bad => k_is)
    (case k_l_zones_bad => k_is)
    (case l_l_swing_bad => k_is)
    (case c_l_swing_bad => k_is)
    (case k_l_swing_bad => k_is)
    (case l_l_refused => k_is)
    (case c_l_refused => k_is)
    (case k_l_refused => k_is)
    (case l_law => k_is)
    (case c_law => k_is)
    (case k_law => k_is)
    (case pg_Plate => k_is)
    (case hd_Plate => k_is)
    (case po_Plate => k_is)
    (case sa_Plate => k_is)
    (case no_Plate_counts => k_is)
    (case no_Plate_lap => k_is)
    (case no_Plate_skew => k_is)
    (case no_Plate_swings => k_is)
    (case no_Plate_spare => k_is)
    (case mk_Plate => k_is)
    (case fn_Plate => k_is)
    (case kc_Plate => k_is)
    (case mf_Plate_rings => k_is)
    (case x_NoPlate => k_exc)
    (case k_NoPlate => k_is)
    (case b2_NoPlate => k_is)
    (case b1_ArmError => k_is)
    (case b1_NoPlate => k_is)
    (case b2_ArmError => k_is)
    (case hd_ArmError => k_is)
    (case hd_NoPlate => k_is)
    (case su_NoPlate_ArmError => k_is)
    (case hg_NoPlate => k_is)
    (case hk_NoPlate => k_is)
    (case ha_NoPlate => k_is)
    (case hm_NoPlate => k_is)
    (case hn_ => k_is)
    (case ht_ => k_is)
    (case ks_NoPlate_NoAsk => k_is)
    (case ks_NoPlate_NoBook => k_is)
    (case ks_NoPlate_NoCell => k_is)
    (case ks_NoPlate_NoLine => k_is)
    (case ks_NoPlate_NoOrder => k_is)
    (case ks_NoPlate_NoPlate => k_is)
    (case ks_NoPlate_NoRule => k_is)
    (case ks_NoPlate_NoSpare => k_is)
    (case ks_NoPlate_TooMany => k_is)
    (case ks_NoPlate_ValueError => k_is)
    (case ss_NoPlate => k_is)
    (case hd_NoAsk => k_is)
    (case b2_NoAsk => k_is)
    (case hd_NoBook => k_is)
    (case b2_NoBook => k_is)
    (case hd_NoCell => k_is)
    (case b2_NoCell => k_is)
    (case hd_NoLine => k_is)
    (case b2_NoLine => k_is)
    (case hd_NoOrder => k_is)
    (case b2_NoOrder => k_is)
    (case hd_NoRule => k_is)
    (case b2_NoRule => k_is)
    (case hd_NoSpare => k_is)
    (case b2_NoSpare => k_is)
    (case hd_TooMany => k_is)
    (case b2_TooMany => k_is)
    (case z_ValueError => k_is)
    (case z_bool => k_is)
    (case z_int => k_is)
    (case z_isinstance => k_is)
    (case z_len => k_is)
    (case z_list => k_is)
    (case z_max => k_is)
    (case z_range => k_is)
    (case z_sorted => k_is)
    (case z_str => k_is)
    (case z_tuple => k_is)
    (case v_MOST => k_is)
