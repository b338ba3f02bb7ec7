import PyProof.Rows.All
import Wide.All
import OpenK.AllK
import Wide.FinOn
import HandS.ForExc
import HandS.ForMost
import HandS.CallSlots
import HandS.Wide
import HandS.IsInst
import HandS.SortInts
import HandS.Defaults
import HandS.Conv
import HandS.ClsMeth
import HandS.ExcInit
import HandS.Deep
import HandS.EndBits
import HandS.Ends
import HandS.ExcField
import HandS.ExcIs
import HandS.Head0
import HandS.Head1
import HandS.Head2
import HandS.HeadHook1
import HandS.HeadHook2
import HandS.Iter
import HandS.More
import HandS.Rev
import HandS.SetFor
import HandS.SortKw
import HandS.Strs
import HandS.Style
import HandS.TupAny
import HandS.TupLe
import HandS.TupMul
import HandS.TupSets
import KE.DataCmp
import KE.DataFind
import KE.DataMinMax
import KE.KExcIs
import KE.KSortKeyAny
import KE.KStateDown
import PyProof.EqAt
import PySem.Str
import PySem.Challenge.RW_armswing_k61_heaps
set_option linter.all false
/-! The plain side: data, slots, memory, and what each form of the text comes to, with no machine in sight. -/
namespace Q
open PySem (Str)

inductive D where
  | non
  | bl (b : Bool)
  | int (i : Int)
  | str (s : Str)
  | tup (xs : List D)
  | lst (xs : List D)
  | frz (ns : List Int)
  | obj (c : Nat) (fs : List D)
  | dik (kvs : List (Int × D))
  | dtk (kvs : List (List Int × D))
  | ptr (n : Nat)

namespace D
def scalar : D → Bool
  | .non | .bl _ | .int _ | .str _ => true
  | _ => false
def flat : D → Bool
  | .lst xs => xs.all scalar
  | .tup xs => xs.all scalar
  | d => scalar d
mutual
/-- the data that Python's == may be asked of here -/
def plain : D → Bool
  | .non | .int _ => true
  | .bl _ => true
  | .str s => s.cps.all (· < 0x110000)
  | .tup xs => plains xs
  | .lst xs => plains xs
  | _ => false
def plains : List D → Bool
  | [] => true
  | x :: xs => plain x && plains xs
end
mutual
def depth : D → Nat
  | .tup xs => depths xs + 1
  | .lst xs => depths xs + 1
  | _ => 0
def depths : List D → Nat
  | [] => 0
  | x :: xs => max (depth x) (depths xs)
end
mutual
/-- no places of the memory -/
def noptr : D → Bool
  | .non | .int _ | .bl _ | .str _ | .frz _ => true
  | .tup xs => noptrs xs
  | .lst xs => noptrs xs
  | .obj _ xs => noptrs xs
  | .dik kvs => noptrI kvs
  | .dtk kvs => noptrT kvs
  | .ptr _ => false
def noptrs : List D → Bool
  | [] => true
  | x :: xs => noptr x && noptrs xs
def noptrI : List (Int × D) → Bool
  | [] => true
  | (_, x) :: xs => noptr x && noptrI xs
def noptrT : List (List Int × D) → Bool
  | [] => true
  | (_, x) :: xs => noptr x && noptrT xs
end
def numOf : D → Option Int
  | .bl b => some (if b then 1 else 0)
  | .int i => some i
  | _ => none
mutual
def eqv : D → D → Bool
  | .non, .non => true
  | .bl a, .bl b => a == b
  | .bl a, .int j => (if a then 1 else 0) == j
  | .int i, .bl b => i == (if b then 1 else 0)
  | .int a, .int b => a == b
  | .str a, .str b => decide (a = b)
  | .tup xs, .tup ys => eqvs xs ys
  | .lst xs, .lst ys => eqvs xs ys
  | _, _ => false
def eqvs : List D → List D → Bool
  | [], [] => true
  | x :: xs, y :: ys => eqv x y && eqvs xs ys
  | _, _ => false
end
end D
/-- the memory: what stands at each place; none: nothing any more -/
abbrev Mem := List (Option D)
/-- how a value is held: cold (never changed again), fresh (new, nobody else holds it), hot (a thing that a name of the frame or the memory changes), taint (may hold something hot) -/
inductive Cl where
  | cold | fresh | hot | taint
  deriving DecidableEq
inductive S where
  | no
  | cold (d : D)
  | hot (d : D)
  | slf (c : Nat) (ds : List D)
  | bor (d : D)
  | exn (k : Nat) (fs : List D)
structure Env where
  sl : List S
  mem : Mem
def Env.get (e : Env) (i : Nat) : Option S := e.sl[i]?
def Env.set (e : Env) (i : Nat) (s : S) : Env := ⟨e.sl.set i s, e.mem⟩
def Env.wm (e : Env) (m : Mem) : Env := ⟨e.sl, m⟩
inductive R where
  | ok (d : D) (c : Cl) (m : Mem)
  | exc (k : Nat) (fs : List D) (m : Mem)
  | bad
inductive RA where
  | ok (ds : List D) (t : Bool) (m : Mem)
  | exc (k : Nat) (fs : List D) (m : Mem)
  | bad
inductive RB where
  | ok (b : Bool) (m : Mem)
  | exc (k : Nat) (fs : List D) (m : Mem)
  | bad
inductive Ctl where
  | nx (e : Env)
  | rt (d : D) (c : Cl) (e : Env)
  | bk (e : Env)
  | ct (e : Env)
  | exc (k : Nat) (fs : List D) (e : Env)
  | bad
abbrev X := Env → R
abbrev XA := Env → RA
abbrev XB := Env → RB
abbrev XS := Env → Ctl
/-- a def -/
abbrev F := List D → Mem → R

def R.bind (r : R) (f : D → Cl → Mem → R) : R := match r with
  | .ok d c m => f d c m
  | .exc k fs m => .exc k fs m
  | .bad => .bad
def R.bindA (r : R) (f : D → Cl → Mem → RA) : RA := match r with
  | .ok d c m => f d c m
  | .exc k fs m => .exc k fs m
  | .bad => .bad
def R.bindB (r : R) (f : D → Cl → Mem → RB) : RB := match r with
  | .ok d c m => f d c m
  | .exc k fs m => .exc k fs m
  | .bad => .bad
def RA.bind (r : RA) (f : List D → Bool → Mem → R) : R := match r with
  | .ok ds t m => f ds t m
  | .exc k fs m => .exc k fs m
  | .bad => .bad
def RA.bindA (r : RA) (f : List D → Bool → Mem → RA) : RA := match r with
  | .ok ds t m => f ds t m
  | .exc k fs m => .exc k fs m
  | .bad => .bad
def RB.bind (r : RB) (f : Bool → Mem → R) : R := match r with
  | .ok b m => f b m
  | .exc k fs m => .exc k fs m
  | .bad => .bad
def RB.bindB (r : RB) (f : Bool → Mem → RB) : RB := match r with
  | .ok b m => f b m
  | .exc k fs m => .exc k fs m
  | .bad => .bad
def R.bindS (r : R) (e : Env) (f : D → Cl → Mem → Ctl) : Ctl := match r with
  | .ok d c m => f d c m
  | .exc k fs m => .exc k fs (e.wm m)
  | .bad => .bad
def RA.bindS (r : RA) (e : Env) (f : List D → Bool → Mem → Ctl) : Ctl := match r with
  | .ok ds t m => f ds t m
  | .exc k fs m => .exc k fs (e.wm m)
  | .bad => .bad
def RB.bindS (r : RB) (e : Env) (f : Bool → Mem → Ctl) : Ctl := match r with
  | .ok b m => f b m
  | .exc k fs m => .exc k fs (e.wm m)
  | .bad => .bad
def Ctl.bind (r : Ctl) (f : Env → Ctl) : Ctl := match r with
  | .nx e => f e
  | r => r

/-- the largest length that a made thing may have -/
def most : Nat := 1000000
def ofO (m : Mem) : Option D → R
  | some d => .ok d .cold m
  | none => .bad

/-! ### the memory -/
/-- what stands at a place -/
def at_ (m : Mem) (n : Nat) : Option D := (m[n]?).bind id
def rdS {α : Type} (b : α) (k : D → Cl → α) : Option D → α
  | some x => k x .hot
  | none => b
/-- the thing itself, where only its place is told -/
def rdG {α : Type} (b : α) (m : Mem) (d : D) (c : Cl) (k : D → Cl → α) : α := match d with
  | .ptr n => rdS b k (at_ m n)
  | d => k d c
abbrev rd := @rdG R .bad
abbrev rdA := @rdG RA .bad
/-- a new thing, put into the memory -/
def nwS (m : Mem) (d : D) : Cl → R
  | .fresh => .ok (.ptr m.length) .cold (m ++ [some d])
  | _ => .bad
/-! ### expressions -/
def varS (m : Mem) : Option S → R
  | some (.cold d) => .ok d .cold m
  | some (.hot d) => .ok d .hot m
  | some (.slf c ds) => .ok (.obj c ds) .hot m
  | some (.bor d) => .ok d .taint m
  | _ => .bad
def var (i : Nat) : X := fun e => varS e.mem (e.get i)
def con (d : D) : X := fun e => .ok d .cold e.mem
def op1 (f : D → Option D) (a : X) : X := fun e => (a e).bind fun x c m => rd m x c fun x _ => ofO m (f x)
/-- of the place, where only its place is told -/
def op1n (f : D → Option D) (a : X) : X := fun e => (a e).bind fun x _ m => ofO m (f x)
def op2 (f : D → D → Option D) (a b : X) : X := fun e => (a e).bind fun x c m => (b (e.wm m)).bind fun y c' m => rd m x c fun x _ => rd m y c' fun y _ => ofO m (f x y)
/-- a and what is behind it, by what a tells -/
def chS (m : Mem) (r : R) : Option D → R
  | some (.bl true) => r
  | some (.bl false) => .ok (.bl false) .cold m
  | _ => .bad
def orS (m : Mem) (r : R) : Option D → R
  | some (.bl true) => .ok (.bl true) .cold m
  | some (.bl false) => r
  | _ => .bad
/-- a op1 b op2 c -/
def chain (f g : D → D → Option D) (a b c : X) : X := fun e => (a e).bind fun x _ m => (b (e.wm m)).bind fun y _ m => chS m ((c (e.wm m)).bind fun z _ m => ofO m (g y z)) (f x y)
def tstS (m : Mem) : D → RB
  | .bl b => .ok b m
  | _ => .bad
def tst (a : X) : XB := fun e => (a e).bindB fun d _ m => tstS m d
def tand (a b : XB) : XB := fun e => (a e).bindB fun k m => if k = true then b (e.wm m) else .ok false m
def tor (a b : XB) : XB := fun e => (a e).bindB fun k m => if k = true then .ok true m else b (e.wm m)
def tnot (a : XB) : XB := fun e => (a e).bindB fun k m => .ok (!k) m
def tyes : XB := fun e => .ok true e.mem
def vand (a b : X) : X := fun e => (a e).bind fun d _ m => chS m (b (e.wm m)) (some d)
def vor (a b : X) : X := fun e => (a e).bind fun d _ m => orS m (b (e.wm m)) (some d)
def ntS (m : Mem) : D → R
  | .bl b => .ok (.bl (!b)) .cold m
  | _ => .bad
def vnot (a : X) : X := fun e => (a e).bind fun d _ m => ntS m d
def cond (t : XB) (a b : X) : X := fun e => (t e).bind fun k m => if k = true then a (e.wm m) else b (e.wm m)
/-- does the class tell that something hot may be in it -/
def dirty (c : Cl) (d : D) : Bool := match c with
  | .hot => true
  | .taint => !d.scalar
  | _ => false
def nw (a : X) : X := fun e => (a e).bind fun d c m => nwS m d c
/-! ### argument lists -/
def anil : XA := fun e => .ok [] false e.mem
def acons (a : X) (r : XA) : XA := fun e => (a e).bindA fun d c m => (r (e.wm m)).bindA fun ds t m => .ok (d :: ds) (dirty c d || t) m
def tupx (a : XA) : X := fun e => (a e).bind fun ds t m => if ds.length ≤ most then .ok (.tup ds) (if t = true then .taint else .cold) m else .bad
def lstx (a : XA) : X := fun e => (a e).bind fun ds t m => if ds.length ≤ most then .ok (.lst ds) (if t = true then .taint else .fresh) m else .bad
/-- what is part of a value -/
def part (c : Cl) (d : D) : Cl := match c with
  | .taint => if d.scalar = true then .cold else .taint
  | _ => .cold
/-- a call's end, nothing lent -/
def outB : Cl → Cl
  | .fresh => .fresh
  | _ => .cold
def back : R → R
  | .ok d c m => .ok d (outB c) m
  | r => r
/-- .. where something was lent -/
def post (d : D) : Cl → Cl
  | .fresh => if d.flat = true then .fresh else .taint
  | _ => if d.scalar = true then .cold else .taint
/-- a memory at which nothing stands -/
def dead (m : Mem) : Mem := List.replicate m.length none
def lent (m : Mem) : R → R
  | .ok d c m' => if m'.length = m.length then .ok d (post d c) m else .bad
  | .exc k fs m' => if m'.length = m.length ∧ fs.all D.scalar = true then .exc k fs m else .bad
  | .bad => .bad
def run (t : Bool) (g : F) (ds : List D) (m : Mem) : R := if t = true then lent m (g ds (dead m)) else back (g ds m)
def call (n : Nat) (g : F) (a : XA) : X := fun e => (a e).bind fun ds t m => if ds.length = n then run t g ds m else .bad
/-- a call that runs over a memory of its own -/
def own (m : Mem) : R → R
  | .ok d c _ => if d.noptr = true then .ok d c m else .bad
  | .exc k fs _ => if D.noptrs fs = true then .exc k fs m else .bad
  | .bad => .bad
def lone (g : F) : F := fun ds m => if D.noptrs ds = true then own m (g ds []) else .bad
/-- the last arguments by their defaults -/
def dft (n : Nat) (dl : List D) (g : F) : F := fun ds m => if dl.length ≤ n then g (ds ++ dl) m else .bad
/-- C(..): the class's tag, what its __init__ makes of the arguments (the object's fields) -/
def freshR : R → R
  | .ok d _ m => .ok d .fresh m
  | r => r
def lentR (t : Bool) (cl : Cl) (m : Mem) : R → R
  | .ok d _ m' => if m'.length = m.length then .ok d cl m else .bad
  | .exc k fs m' => if m'.length = m.length ∧ (t = false ∨ fs.all D.scalar = true) then .exc k fs m else .bad
  | .bad => .bad
def mkR (t : Bool) (g : F) (ds : List D) (m : Mem) : R := if t = true then lentR true .taint m (g ds (dead m)) else freshR (g ds m)
def mk (n : Nat) (g : F) (a : XA) : X := fun e => (a e).bind fun ds t m => if ds.length = n then mkR t g ds m else .bad
/-- .. where nothing of the arguments is kept -/
def mkN (n : Nat) (g : F) (a : XA) : X := fun e => (a e).bind fun ds t m => if ds.length = n then lentR t .fresh m (g ds (dead m)) else .bad
/-- C() of a class without __init__ -/
def mk0 (c : Nat) : X := fun e => .ok (.obj c []) .fresh e.mem
/-- a else b: a tells nothing where the object is of another class -/
def orxS (r : R) : R → R
  | .bad => r
  | q => q
def orx (a b : X) : X := fun e => orxS (b e) (a e)
/-- o.m(..), o of the class n -/
def meS (n m : Nat) (g : F) (e : Env) (a : XA) (c : Cl) (μ : Mem) : D → R
  | .obj k fs => if k = n then (a (e.wm μ)).bind fun ds t μ => (if ds.length = m then run (dirty c (.obj k fs) || t) g (.obj k fs :: ds) μ else .bad) else .bad
  | _ => .bad
def meth (n m : Nat) (g : F) (o : X) (a : XA) : X := fun e => (o e).bind fun d c μ => meS n m g e a c μ d
/-- o.m(..), o a place at which an object of the class n stands -/
def mpS (n m : Nat) (g : F) (e : Env) (a : XA) (p : Nat) (μ : Mem) : Option D → R
  | some (.obj k _) => if k = n then (a (e.wm μ)).bind fun ds t μ => (if ds.length = m then run t g (.ptr p :: ds) μ else .bad) else .bad
  | _ => .bad
def mpT (n m : Nat) (g : F) (e : Env) (a : XA) (μ : Mem) : D → R
  | .ptr p => mpS n m g e a p μ (at_ μ p)
  | _ => .bad
def methP (n m : Nat) (g : F) (o : X) (a : XA) : X := fun e => (o e).bind fun d _ μ => mpT n m g e a μ d
/-- o.f: the k-th field of an object of the class n -/
def flT (c : Cl) (m : Mem) : Option D → R
  | some x => .ok x (part c x) m
  | none => .bad
def flS (n k : Nat) (c : Cl) (m : Mem) : D → R
  | .obj q fs => if q = n then flT c m (fs[k]?) else .bad
  | _ => .bad
def fld (n k : Nat) (o : X) : X := fun e => (o e).bind fun d c m => rd m d c fun d c => flS n k c m d
/-! ### places in lists -/
def ixN (n : Nat) (i : Int) : Option Nat := if 0 ≤ i then (if i < n then some i.toNat else none) else if -(n : Int) ≤ i then some (i + n).toNat else none
def atI {α : Type} (xs : List α) (i : Int) : Option α := (ixN xs.length i).bind fun j => xs[j]?
@[simp] def item : D → D → Option D
  | .lst xs, .int i => atI xs i
  | .tup xs, .int i => atI xs i
  | .frz ns, .int i => (atI ns i).map D.int
  | _, _ => none
def idx (a b : X) : X := fun e => (a e).bind fun x c m => (b (e.wm m)).bind fun y _ m => rd m x c fun x c => flT c m (item x y)
def sIx (n d : Nat) : Option Int → Nat
  | none => d
  | some v => if v < 0 then (v + (n : Int)).toNat else min v.toNat n
def cut {α : Type} (xs : List α) (lo hi : Option Int) : List α := (xs.drop (sIx xs.length 0 lo)).take (sIx xs.length xs.length hi - sIx xs.length 0 lo)
inductive RO where
  | ok (o : Option Int) (m : Mem)
  | bad
abbrev XO := Env → RO
def RO.bind (r : RO) (f : Option Int → Mem → R) : R := match r with
  | .ok o m => f o m
  | .bad => .bad
def onone : XO := fun e => .ok none e.mem
def osS : R → RO
  | .ok (.int i) _ m => .ok (some i) m
  | _ => .bad
def osome (a : X) : XO := fun e => osS (a e)
/-- the class of a new list of the same items -/
def again (c : Cl) (ds : List D) : Cl := match c with
  | .taint => if ds.all D.scalar = true then .fresh else .taint
  | _ => .fresh
def slS (c : Cl) (l h : Option Int) (m : Mem) : D → R
  | .lst xs => .ok (.lst (cut xs l h)) (again c (cut xs l h)) m
  | .frz ns => .ok (.lst ((cut ns l h).map D.int)) .fresh m
  | .tup xs => if sIx xs.length 0 l = 0 ∧ sIx xs.length xs.length h = xs.length then .ok (.tup xs) (part c (.tup xs)) m else .ok (.tup (cut xs l h)) (part c (.tup (cut xs l h))) m
  | _ => .bad
def slice (a : X) (lo hi : XO) : X := fun e => (a e).bind fun x c m => (lo (e.wm m)).bind fun l m => (hi (e.wm m)).bind fun h m => rd m x c fun x c => slS c l h m x
/-- list(xs) -/
@[simp] def items : D → Option (List D)
  | .lst xs => some xs
  | .tup xs => some xs
  | .frz ns => some (ns.map D.int)
  | _ => none
def loS (c : Cl) (m : Mem) : Option (List D) → R
  | some ds => .ok (.lst ds) (again c ds) m
  | none => .bad
def listOf (a : X) : X := fun e => (a e).bind fun x c m => rd m x c fun x c => loS c m (items x)
def lrS (m : Mem) : D → D → R
  | .int a, .int b => if (-4000000000 < a ∧ a < 4000000000) ∧ (-4000000000 < b ∧ b < 4000000000) ∧ b - a ≤ 1000000 then .ok (.lst (((List.range (b - a).toNat).map fun (i : Nat) => a + (i : Int)).map D.int)) .fresh m else .bad
  | _, _ => .bad
def listRng (lo hi : X) : X := fun e => (lo e).bind fun x _ m => (hi (e.wm m)).bind fun y _ m => lrS m x y
/-- tuple(xs) -/
def tuS (c : Cl) (m : Mem) : D → R
  | .lst ds => .ok (.tup ds) (part c (.tup ds)) m
  | .tup ds => .ok (.tup ds) (part c (.tup ds)) m
  | _ => .bad
def tupOf (a : X) : X := fun e => (a e).bind fun x c m => rd m x c fun x c => tuS c m x
def agC : Cl → Cl → Cl
  | .fresh, .fresh => .fresh
  | _, _ => .taint
def caS (c c' : Cl) (m : Mem) : D → D → R
  | .lst xs, .lst ys => if xs.length + ys.length ≤ most then .ok (.lst (xs ++ ys)) (agC (again c xs) (again c' ys)) m else .bad
  | _, _ => .bad
def catx (a b : X) : X := fun e => (a e).bind fun x c m => (b (e.wm m)).bind fun y c' m => rd m x c fun x c => rd m y c' fun y c' => caS c c' m x y
/-- tuple + tuple -/
def ctS (c c' : Cl) (m : Mem) : D → D → R
  | .tup xs, .tup ys => if xs.length + ys.length ≤ most ∧ xs ≠ [] ∧ ys ≠ [] then .ok (.tup (xs ++ ys)) (if (c = .taint ∨ c' = .taint) then .taint else .cold) m else .bad
  | _, _ => .bad
def catt (a b : X) : X := fun e => (a e).bind fun x c m => (b (e.wm m)).bind fun y c' m => rd m x c fun x c => rd m y c' fun y c' => ctS c c' m x y
def repD (xs : List D) (k : Int) : List D := (List.replicate k.toNat xs).flatten
def reS (c : Cl) (m : Mem) : D → D → R
  | .lst xs, .int k => if k ≤ 1000000 ∧ -1000000 ≤ k ∧ xs.length * k.toNat ≤ most then .ok (.lst (repD xs k)) (again c xs) m else .bad
  | _, _ => .bad
def repx (a b : X) : X := fun e => (a e).bind fun x c m => (b (e.wm m)).bind fun y _ m => rd m x c fun x c => reS c m x y
/-! ### operators on data -/
def big : Int := 340282366920938463463374607431768211456
@[simp] def opAdd : D → D → Option D
  | .int i, .int j => some (.int (i + j))
  | _, _ => none
@[simp] def opSub : D → D → Option D
  | .int i, .int j => some (.int (i - j))
  | _, _ => none
@[simp] def opMul : D → D → Option D
  | .int i, .int j => if (-big < i ∧ i < big) ∧ -big < j ∧ j < big then some (.int (i * j)) else none
  | _, _ => none
@[simp] def opDiv : D → D → Option D
  | .int i, .int j => if 0 < j ∧ j < big then some (.int (i / j)) else none
  | _, _ => none
@[simp] def opMod : D → D → Option D
  | .int i, .int j => if 0 < j then some (.int (i % j)) else none
  | _, _ => none
@[simp] def opPow : D → D → Option D
  | .int i, .int j => if 0 ≤ j ∧ j ≤ 1000 ∧ -1000 < i ∧ i < 1000 then some (.int (i ^ j.toNat)) else none
  | _, _ => none
@[simp] def opNeg : D → Option D
  | .int i => some (.int (-i))
  | _ => none
@[simp] def opLt : D → D → Option D
  | .int i, .int j => some (.bl (decide (i < j)))
  | _, _ => none
@[simp] def opLe : D → D → Option D
  | .int i, .int j => some (.bl (decide (i ≤ j)))
  | _, _ => none
@[simp] def opGt : D → D → Option D
  | .int i, .int j => some (.bl (decide (j < i)))
  | _, _ => none
@[simp] def opGe : D → D → Option D
  | .int i, .int j => some (.bl (decide (j ≤ i)))
  | _, _ => none
/-- == of two scalars -/
@[simp] def eqS : D → D → Option Bool
  | .non, .non => some true
  | .int i, .int j => some (decide (i = j))
  | .bl i, .bl j => some (decide (i = j))
  | .str i, .str j => some (decide (i = j))
  | .non, .int _ => some false
  | .int _, .non => some false
  | .non, .bl _ => some false
  | .bl _, .non => some false
  | .non, .str _ => some false
  | .str _, .non => some false
  | .int _, .str _ => some false
  | .str _, .int _ => some false
  | .bl _, .str _ => some false
  | .str _, .bl _ => some false
  | _, _ => none
@[simp] def opEq (x y : D) : Option D := (eqS x y).map D.bl
@[simp] def opNe (x y : D) : Option D := (eqS x y).map fun b => D.bl (!b)
/-- == of lists and tuples at any depth -/
@[simp] def eqP (x y : D) : Option Bool := if x.plain = true ∧ y.plain = true ∧ x.depth ≤ 64 ∧ y.depth ≤ 64 then some (D.eqv x y) else none
@[simp] def opEqP (x y : D) : Option D := (eqP x y).map D.bl
@[simp] def opNeP (x y : D) : Option D := (eqP x y).map fun b => D.bl (!b)
@[simp] def opIsN : D → Option D
  | .non => some (.bl true)
  | .int _ | .bl _ | .str _ | .tup _ | .lst _ | .obj _ _ | .frz _ | .dik _ | .dtk _ | .ptr _ => some (.bl false)
@[simp] def opNotN : D → Option D
  | .non => some (.bl false)
  | .int _ | .bl _ | .str _ | .tup _ | .lst _ | .obj _ _ | .frz _ | .dik _ | .dtk _ | .ptr _ => some (.bl true)
/-- x in xs, flat items -/
@[simp] def memP (x : D) (ds : List D) : Option Bool := if (x.scalar && ds.all D.scalar) = true then some (ds.any fun y => D.eqv y x) else none
@[simp] def opIn (x : D) : D → Option D
  | .lst ds => (memP x ds).map D.bl
  | .tup ds => (memP x ds).map D.bl
  | _ => none
@[simp] def opNotIn (x : D) : D → Option D
  | .lst ds => (memP x ds).map fun b => D.bl (!b)
  | .tup ds => (memP x ds).map fun b => D.bl (!b)
  | _ => none
@[simp] def fLen : D → Option D
  | .lst xs => some (.int xs.length)
  | .tup xs => some (.int xs.length)
  | .frz xs => some (.int xs.length)
  | _ => none
@[simp] def fAbs : D → Option D
  | .int i => some (.int (if i < 0 then -i else i))
  | _ => none
@[simp] def fMax2 : D → D → Option D
  | .int i, .int j => some (.int (if j > i then j else i))
  | _, _ => none
@[simp] def fMin2 : D → D → Option D
  | .int i, .int j => some (.int (if j < i then j else i))
  | _, _ => none
/-- the intsD of a list, if it is one -/
def intsD : List D → Option (List Int)
  | [] => some []
  | .int i :: r => (intsD r).map (i :: ·)
  | _ :: _ => none
theorem ints_map (ns : List Int) : intsD (ns.map D.int) = some ns := by
  induction ns with
  | nil => rfl
  | cons n r ih => simp [intsD, ih]
theorem of_ints : ∀ {ds : List D} {ns : List Int}, intsD ds = some ns → ds = ns.map D.int
  | [], ns, h => by simp [intsD] at h; subst h; rfl
  | d :: r, ns, h => by
    cases d with
    | int i =>
      simp only [intsD, Option.map_eq_some_iff] at h
      obtain ⟨m, hm, rfl⟩ := h
      rw [of_ints hm]
      rfl
    | _ => simp [intsD] at h
def bools : List D → Option (List Bool)
  | [] => some []
  | .bl i :: r => (bools r).map (i :: ·)
  | _ :: _ => none
theorem bools_map (ns : List Bool) : bools (ns.map D.bl) = some ns := by
  induction ns with
  | nil => rfl
  | cons n r ih => simp [bools, ih]
theorem of_bools : ∀ {ds : List D} {ns : List Bool}, bools ds = some ns → ds = ns.map D.bl
  | [], ns, h => by simp [bools] at h; subst h; rfl
  | d :: r, ns, h => by
    cases d with
    | bl i =>
      simp only [bools, Option.map_eq_some_iff] at h
      obtain ⟨m, hm, rfl⟩ := h
      rw [of_bools hm]
      rfl
    | _ => simp [bools] at h
@[simp] def fSum : D → Option D
  | .lst ds => (intsD ds).map fun ns => D.int ns.sum
  | _ => none
def maxI : List Int → Int
  | [] => 0
  | x :: r => r.foldl max x
def minI : List Int → Int
  | [] => 0
  | x :: r => r.foldl min x
@[simp] def fMxS (g : List Int → Int) : Option (List Int) → Option D
  | some (n :: ns) => some (.int (g (n :: ns)))
  | _ => none
@[simp] def fMax : D → Option D
  | .lst ds => fMxS maxI (intsD ds)
  | _ => none
@[simp] def fMin : D → Option D
  | .lst ds => fMxS minI (intsD ds)
  | _ => none
@[simp] def fAny : D → Option D
  | .lst ds => (bools ds).map fun bs => D.bl (bs.any id)
  | _ => none
@[simp] def fAll : D → Option D
  | .lst ds => (bools ds).map fun bs => D.bl (bs.all id)
  | _ => none
def sortI (ns : List Int) : List Int := ns.mergeSort (fun a b => decide (a ≤ b))
/-- sorted(xs) of whole numbers -/
def soT (m : Mem) : Option (List Int) → R
  | some ns => .ok (.lst ((sortI ns).map D.int)) .fresh m
  | none => .bad
def soS (m : Mem) : D → R
  | .lst ds => soT m (intsD ds)
  | _ => .bad
def sortedI (a : X) : X := fun e => (a e).bind fun x c m => rd m x c fun x _ => soS m x
/-- isinstance by a decision on the data -/
def blO (m : Mem) : Option Bool → R
  | some b => .ok (.bl b) .cold m
  | none => .bad
def isi (p : D → Option Bool) (a : X) : X := fun e => (a e).bind fun d c m => rd m d c fun d _ => blO m (p d)
@[simp] def isTup : D → Option Bool
  | .tup _ => some true
  | .lst _ | .int _ | .bl _ | .str _ | .non => some false
  | _ => none
@[simp] def isLst : D → Option Bool
  | .lst _ => some true
  | .tup _ | .int _ | .bl _ | .str _ | .non => some false
  | _ => none
@[simp] def isTL : D → Option Bool
  | .lst _ | .tup _ => some true
  | .int _ | .bl _ | .str _ | .non => some false
  | _ => none
@[simp] def isBl : D → Option Bool
  | .bl _ => some true
  | .lst _ | .tup _ | .int _ | .str _ | .non => some false
  | _ => none
@[simp] def isInt : D → Option Bool
  | .bl _ | .int _ => some true
  | .lst _ | .tup _ | .str _ | .non => some false
  | _ => none
@[simp] def isStr : D → Option Bool
  | .str _ => some true
  | .lst _ | .tup _ | .int _ | .bl _ | .non => some false
  | _ => none
/-- isinstance(o, C) of an object of this text: by the classes' tags -/
def isO (p : Nat → Option Bool) : D → Option Bool
  | .obj c _ => p c
  | _ => none
/-! ### dicts -/
def valK {κ : Type} [DecidableEq κ] (kvs : List (κ × D)) (k : κ) : Option D := (kvs.find? fun kv => decide (kv.1 = k)).map (·.2)
def putK {κ : Type} [DecidableEq κ] (kvs : List (κ × D)) (k : κ) (v : D) : List (κ × D) :=
  if (kvs.any fun kv => decide (kv.1 = k)) = true then kvs.map (fun kv => if kv.1 = k then (kv.1, v) else kv) else kvs ++ [(k, v)]
/-- d[k], k in d -/
def dget : D → D → Option (Option D)
  | .dik kvs, .int k => some (valK kvs k)
  | .dtk kvs, .tup ks => (intsD ks).map (valK kvs)
  | _, _ => none
def dput (v : D) : D → D → Option D
  | .dik kvs, .int k => if kvs.length < most then some (.dik (putK kvs k v)) else none
  | .dtk kvs, .tup ks => (intsD ks).bind fun k => if kvs.length < most then some (.dtk (putK kvs k v)) else none
  | _, _ => none
def diS (m : Mem) (c : Cl) : Option (Option D) → R
  | some (some v) => .ok v (part c v) m
  | _ => .bad
def didx (a b : X) : X := fun e => (a e).bind fun x c m => (b (e.wm m)).bind fun y _ m => rd m x c fun x c => diS m c (dget x y)
def dnS (m : Mem) (n : Bool) : Option (Option D) → R
  | some o => .ok (.bl (if n = true then !o.isSome else o.isSome)) .cold m
  | _ => .bad
def din (n : Bool) (a b : X) : X := fun e => (a e).bind fun y _ m => (b (e.wm m)).bind fun x c m => rd m x c fun x _ => dnS m n (dget x y)
def dgS (m : Mem) (c : Cl) (z : D) (cz : Cl) : Option (Option D) → R
  | some (some v) => .ok v (part c v) m
  | some none => .ok z (if cz = .taint then .taint else .cold) m
  | _ => .bad
/-- d.get(k), d.get(k, z) -/
def isDic : D → Bool
  | .dik _ | .dtk _ => true
  | _ => false
def isDM (m : Mem) (x : D) : Bool := match x with
  | .ptr n => (at_ m n).any isDic
  | x => isDic x
def dgt1 (a b : X) : X := fun e => (a e).bind fun x c m => if isDM m x = true then (b (e.wm m)).bind fun y _ m => rd m x c fun x c => dgS m c .non .cold (dget x y) else .bad
def dgt2 (a b z : X) : X := fun e => (a e).bind fun x c m => if isDM m x = true then (b (e.wm m)).bind fun y _ m => (z (e.wm m)).bind fun w cz m => if dirty cz w = true then .bad else rd m x c fun x c => dgS m c w .cold (dget x y) else .bad
/-- {} -/
def dnewI : X := fun e => .ok (.dik []) .fresh e.mem
def dnewT : X := fun e => .ok (.dtk []) .fresh e.mem
/-! ### what is walked -/
abbrev XI := Env → RA
/-- a list (or the script) that stands still: not a hot one -/
def ilS (m : Mem) : Cl → D → RA
  | .cold, .lst ds => .ok ds false m
  | .fresh, .lst ds => .ok ds false m
  | .cold, .frz ns => .ok (ns.map D.int) false m
  | _, _ => .bad
def ilst (a : X) : XI := fun e => (a e).bindA fun x c m => ilS m c x
def iuS (m : Mem) : Cl → D → RA
  | .cold, .tup ds => .ok ds false m
  | _, _ => .bad
def itup (a : X) : XI := fun e => (a e).bindA fun x c m => iuS m c x
def rng (lo hi : Int) : List Int := (List.range (hi - lo).toNat).map fun (i : Nat) => lo + (i : Int)
def lim : Int := 4611686018427387904
def i1S (m : Mem) : D → RA
  | .int n => if -lim ≤ n ∧ n < lim then .ok ((rng 0 n).map D.int) false m else .bad
  | _ => .bad
def irng1 (a : X) : XI := fun e => (a e).bindA fun x _ m => i1S m x
def i2S (m : Mem) : D → D → RA
  | .int l, .int h => if (-lim ≤ l ∧ l < lim) ∧ -lim ≤ h ∧ h < lim then .ok ((rng l h).map D.int) false m else .bad
  | _, _ => .bad
def irng2 (a b : X) : XI := fun e => (a e).bindA fun x _ m => (b (e.wm m)).bindA fun y _ m => i2S m x y
/-! ### targets -/
inductive Pat where
  | nm (i : Nat)
  | tp (is : List Nat)
def setMany : List Nat → List D → Env → Option Env
  | [], [], e => some e
  | i :: is, d :: ds, e => setMany is ds (e.set i (.cold d))
  | _, _, _ => none
def Pat.put : Pat → D → Env → Option Env
  | .nm i, d, e => some (e.set i (.cold d))
  | .tp is, .tup ds, e => setMany is ds e
  | .tp _, _, _ => none
/-! ### comprehensions -/
def wipeL (e : List S) : List Nat → List S
  | [] => e
  | v :: vs => (wipeL e vs).set v .no
def wipeE (e : Env) (vs : List Nat) : Env := ⟨wipeL e.sl vs, e.mem⟩
/-- one turn: the items that it gives (one or none), and the memory behind it -/
def l3S : R → Option (Option D × Mem)
  | .ok y c m => if dirty c y = true then none else some (some y, m)
  | _ => none
def l2S (x : X) (e : Env) : RB → Option (Option D × Mem)
  | .ok b m => if b = true then l3S (x (e.wm m)) else some (none, m)
  | _ => none
def l1S (t : XB) (x : X) : Option Env → Option (Option D × Mem)
  | none => none
  | some e1 => l2S x e1 (t e1)
def lcTurn (p : Pat) (t : XB) (x : X) (e : Env) (d : D) : Option (Option D × Mem) := l1S t x (p.put d e)
def lcLoop (p : Pat) (t : XB) (x : X) (e : Env) : List D → Mem → List D → Option (List D × Mem)
  | [], m, acc => some (acc, m)
  | d :: r, m, acc => match lcTurn p t x (e.wm m) d with
    | some (some y, m') => if acc.length < most then lcLoop p t x e r m' (acc ++ [y]) else none
    | some (none, m') => lcLoop p t x e r m' acc
    | none => none
def lcT : Option (List D × Mem) → R
  | some (ys, m) => .ok (.lst ys) .fresh m
  | none => .bad
def lcS (own : List Nat) (p : Pat) (t : XB) (x : X) (e : Env) : RA → R
  | .ok ds _ m => lcT (lcLoop p t x (wipeE e own) ds m [])
  | _ => .bad
def lc (own : List Nat) (it : XI) (p : Pat) (t : XB) (x : X) : X := fun e => lcS own p t x e (it e)
/-! ### statements -/
def snop : XS := fun e => .nx e
def sbad : XS := fun _ => .bad
def seq (a b : XS) : XS := fun e => (a e).bind b
/-- name = value; the value is kept as it is -/
def sset (i : Nat) (a : X) : XS := fun e => (a e).bindS e fun d c m => if dirty c d = true then .bad else .nx ((e.wm m).set i (.cold d))
/-- name = a new thing that the frame will change -/
def shS (i : Nat) (e : Env) (d : D) : Cl → Ctl
  | .fresh => .nx (e.set i (.hot d))
  | _ => .bad
def shot (i : Nat) (a : X) : XS := fun e => (a e).bindS e fun d c m => shS i (e.wm m) d c
/-- from here on nothing changes it -/
def sfS (i : Nat) (e : Env) : Option S → Ctl
  | some (.hot d) => .nx (e.set i (.cold d))
  | _ => .bad
def sfreeze (i : Nat) : XS := fun e => sfS i e (e.get i)
/-- the thing at the place that the slot tells is changed no more -/
def skT (i n : Nat) (e : Env) : Option D → Ctl
  | some d => .nx ((e.wm (e.mem.set n none)).set i (.cold d))
  | _ => .bad
def skS (i : Nat) (e : Env) : Option S → Ctl
  | some (.cold (.ptr n)) => skT i n e (at_ e.mem n)
  | _ => .bad
def skill (i : Nat) : XS := fun e => skS i e (e.get i)
def suT : Option Env → Ctl
  | some e1 => .nx e1
  | none => .bad
def sunp (is : List Nat) (a : X) : XS := fun e => (a e).bindS e fun d c m => if dirty c d = true then .bad else suT (Pat.put (.tp is) d (e.wm m))
/-- a, b = x, y -/
def spar (i j : Nat) (a b : X) : XS := fun e => (a e).bindS e fun x c m => (b (e.wm m)).bindS e fun y c' m => if (dirty c x || dirty c' y) = true then .bad else .nx (((e.wm m).set i (.cold x)).set j (.cold y))
def saT (i : Nat) (e : Env) : Option D → Ctl
  | some z => .nx (e.set i (.cold z))
  | none => .bad
def saS (i : Nat) (f : D → D → Option D) (a : X) (e : Env) : Option S → Ctl
  | some (.cold x) => (a e).bindS e fun y _ m => saT i (e.wm m) (f x y)
  | _ => .bad
def saug (i : Nat) (f : D → D → Option D) (a : X) : XS := fun e => saS i f a e (e.get i)
def sexpr (a : X) : XS := fun e => (a e).bindS e fun _ _ m => .nx (e.wm m)
/-- what a list becomes by xs.append(a) and its like -/
def spT (i : Nat) (e : Env) (ds : List D) (d : D) : Ctl := if ds.length < most then .nx (e.set i (.hot (.lst (ds ++ [d])))) else .bad
def spS (i : Nat) (a : X) (e : Env) : Option S → Ctl
  | some (.hot (.lst ds)) => (a e).bindS e fun d c m => if dirty c d = true then .bad else spT i (e.wm m) ds d
  | _ => .bad
def sapp (i : Nat) (a : X) : XS := fun e => spS i a e (e.get i)
def sxT (i : Nat) (e : Env) (ds : List D) : Cl → D → Ctl
  | .fresh, .lst ys => if ds.length + ys.length ≤ most then .nx (e.set i (.hot (.lst (ds ++ ys)))) else .bad
  | .cold, .lst ys => if ds.length + ys.length ≤ most then .nx (e.set i (.hot (.lst (ds ++ ys)))) else .bad
  | _, _ => .bad
def sxS (i : Nat) (a : X) (e : Env) : Option S → Ctl
  | some (.hot (.lst ds)) => (a e).bindS e fun d c m => sxT i (e.wm m) ds c d
  | _ => .bad
def sext (i : Nat) (a : X) : XS := fun e => sxS i a e (e.get i)
def scS (i : Nat) (e : Env) : Option S → Ctl
  | some (.hot (.lst _)) => .nx (e.set i (.hot (.lst [])))
  | _ => .bad
def sclear (i : Nat) : XS := fun e => scS i e (e.get i)
/-- xs[k] = a -/
def stV (i : Nat) (e : Env) : Option D → Ctl
  | some z => .nx (e.set i (.hot z))
  | none => .bad
def lput (d : D) : D → D → Option D
  | .lst ds, .int z => (ixN ds.length z).map fun j => .lst (ds.set j d)
  | _, _ => none
def stS (i : Nat) (k a : X) (e : Env) : Option S → Ctl
  | some (.hot x) => (a e).bindS e fun d c m => if dirty c d = true then .bad else (k (e.wm m)).bindS e fun y _ m => stV i (e.wm m) (lput d x y)
  | _ => .bad
def sput (i : Nat) (k a : X) : XS := fun e => stS i k a e (e.get i)
/-- d[k] = a, d a dict of the frame's -/
def sdS (i : Nat) (k a : X) (e : Env) : Option S → Ctl
  | some (.hot x) => (a e).bindS e fun d c m => if dirty c d = true then .bad else (k (e.wm m)).bindS e fun y ck m => if dirty ck y = true then .bad else stV i (e.wm m) (dput d x y)
  | _ => .bad
def sdput (i : Nat) (k a : X) : XS := fun e => sdS i k a e (e.get i)
/-- o.f = a: the k-th field of the object in slot i -/
@[simp] def putF (k : Nat) (ds : List D) (d : D) : Option (List D) := if k < ds.length then some (ds.set k d) else if k = ds.length then some (ds ++ [d]) else none
def slT (n i : Nat) (e : Env) : Option (List D) → Ctl
  | some es => .nx (e.set i (.slf n es))
  | none => .bad
def slU (n i : Nat) (e : Env) : Option (List D) → Ctl
  | some es => .nx (e.set i (.hot (.obj n es)))
  | none => .bad
def slV (n i k : Nat) (a : X) (e : Env) : Option S → Ctl
  | some (.slf m ds) => if m = n then (a e).bindS e fun d c μ => (if dirty c d = true then .bad else slT n i (e.wm μ) (putF k ds d)) else .bad
  | some (.hot (.obj m ds)) => if m = n then (a e).bindS e fun d c μ => (if dirty c d = true then .bad else slU n i (e.wm μ) (putF k ds d)) else .bad
  | _ => .bad
def sfld (n i k : Nat) (a : X) : XS := fun e => slV n i k a e (e.get i)
/-! statements that change what stands in the memory -/
def setM (n : Nat) (m : Mem) (e : Env) : Option D → Ctl
  | some d => .nx (e.wm (m.set n (some d)))
  | none => .bad
/-- what a thing becomes, by the thing, and data -/
def ptT (f : D → Option D) (e : Env) (m : Mem) : D → Ctl
  | .ptr n => setM n m e ((at_ m n).bind f)
  | _ => .bad
def fapp (x : D) : D → Option D
  | .lst ds => if ds.length < most then some (.lst (ds ++ [x])) else none
  | _ => none
def isLO : Option D → Bool
  | some (.lst _) => true
  | _ => false
def lsM (m : Mem) : D → Bool
  | .ptr n => isLO (at_ m n)
  | _ => false
/-- o.append(a), o a place -/
def sappP (o a : X) : XS := fun e => (o e).bindS e fun p _ m => if lsM m p = true then (a (e.wm m)).bindS e fun d c m => if dirty c d = true then .bad else ptT (fapp d) e m p else .bad
/-- o[k] = a -/
def sputP (o k a : X) : XS := fun e => (a e).bindS e fun d c m => if dirty c d = true then .bad else (o (e.wm m)).bindS e fun p _ m => (k (e.wm m)).bindS e fun y _ m => ptT (fun x => lput d x y) e m p
def sdputP (o k a : X) : XS := fun e => (a e).bindS e fun d c m => if dirty c d = true then .bad else (o (e.wm m)).bindS e fun p _ m => (k (e.wm m)).bindS e fun y ck m => if dirty ck y = true then .bad else ptT (fun x => dput d x y) e m p
def fputF (n k : Nat) (d : D) : D → Option D
  | .obj q ds => if q = n then (putF k ds d).map (D.obj n) else none
  | _ => none
/-- o.f = a -/
def sfldP (n k : Nat) (o a : X) : XS := fun e => (a e).bindS e fun d c m => if dirty c d = true then .bad else (o (e.wm m)).bindS e fun p _ m => ptT (fputF n k d) e m p
def fclr : D → Option D
  | .lst _ => some (.lst [])
  | _ => none
def sclearP (o : X) : XS := fun e => (o e).bindS e fun p _ m => ptT fclr e m p
/-- raise C('..'), C without fields -/
def sraise (k : Nat) : XS := fun e => .exc k [] e
/-- raise C(a, ..): the class's fields from the arguments -/
def sraiseF (k n : Nat) (dl : List D) (a : XA) : XS := fun e => (a e).bindS e fun ds t m => if t = true then .bad else if ds.length = n then .exc k (ds ++ dl) (e.wm m) else .bad
/-- no exception is held any more -/
def offS : S → S
  | .exn _ _ => .no
  | s => s
def offE (e : Env) : Env := ⟨e.sl.map offS, e.mem⟩
/-- behind the suite of 'except C as n', n's slot being i -/
def sufC (i : Nat) : Ctl → Ctl
  | .nx e => .nx ((offE e).set i .no)
  | .bk e => .bk ((offE e).set i .no)
  | .ct e => .ct ((offE e).set i .no)
  | .rt d c e => .rt d c ((offE e).set i .no)
  | .exc _ _ _ => .bad
  | .bad => .bad
/-- try: b except C as n: h. m tells of each class of error whether the clause takes it -/
def trX (i : Nat) (h : XS) (k : Nat) (fs : List D) (e1 : Env) : Option Bool → Ctl
  | some true => sufC i (h ((offE e1).set i (.exn k fs)))
  | some false => .exc k fs e1
  | none => .bad
def trS (i : Nat) (m : Nat → Option Bool) (h : XS) : Ctl → Ctl
  | .exc k fs e1 => trX i h k fs e1 (m k)
  | r => r
def stryX (i : Nat) (m : Nat → Option Bool) (b h : XS) : XS := fun e => trS i m h (b e)
/-- e.f, e the error in slot i -/
def exG (m : Mem) : Option D → R
  | some d => .ok d .cold m
  | none => .bad
def exF (n j : Nat) (m : Mem) : Option S → R
  | some (.exn k fs) => if k = n then exG m (fs[j]?) else .bad
  | _ => .bad
def exf (n i j : Nat) : X := fun e => exF n j e.mem (e.get i)
/-- isinstance(e, C), e an error of the class n -/
def exI (n : Nat) (r : Bool) (m : Mem) : Option S → R
  | some (.exn k _) => if k = n then .ok (.bl r) .cold m else .bad
  | _ => .bad
def exis (n i : Nat) (r : Bool) : X := fun e => exI n r e.mem (e.get i)
/-- a try whose body raises nothing -/
def tnS : Ctl → Ctl
  | .exc _ _ _ => .bad
  | r => r
def stryN (b : XS) : XS := fun e => tnS (b e)
def sif (t : XB) (a b : XS) : XS := fun e => (t e).bindS e fun k m => if k = true then a (e.wm m) else b (e.wm m)
def sret (a : X) : XS := fun e => (a e).bindS e fun d c m => .rt d c (e.wm m)
def sretN : XS := fun e => .rt .non .cold e
def sbrk : XS := fun e => .bk e
def scnt : XS := fun e => .ct e
def fT (f : Env → Ctl) : Ctl → Ctl
  | .nx e => f e
  | .ct e => f e
  | .bk e => .nx e
  | r => r
def fO (f : Env → Ctl) : Option Env → Ctl
  | none => .bad
  | some e => f e
def forL (p : Pat) (b : XS) : List D → Env → Ctl
  | [], e => .nx e
  | d :: r, e => fO (fun e1 => fT (forL p b r) (b e1)) (p.put d e)
def foS (p : Pat) (b : XS) (e : Env) : RA → Ctl
  | .ok ds _ m => forL p b ds (e.wm m)
  | .exc k fs m => .bad
  | .bad => .bad
def sfor (it : XI) (p : Pat) (b : XS) : XS := fun e => foS p b e (it e)
def whileN (t : XB) (b : XS) : Nat → Env → Ctl
  | 0, _ => .bad
  | n + 1, e => (t e).bindS e fun k m => if k = true then fT (whileN t b n) (b (e.wm m)) else .nx (e.wm m)
def swhile (n : Nat) (t : XB) (b : XS) : XS := whileN t b n
/-! ### defs -/
/-- the slots at a def's entry -/
def enter (n : Nat) (ds : List D) : List S := ds.map S.cold ++ List.replicate (n - ds.length) S.no
def outC : Cl → Cl
  | .hot => .fresh
  | .fresh => .fresh
  | _ => .cold
def leave : Ctl → R
  | .nx e => .ok .non .cold e.mem
  | .rt d c e => .ok d (outC c) e.mem
  | .exc k fs e => .exc k fs e.mem
  | _ => .bad
def fn (n : Nat) (b : XS) : F := fun ds m => leave (b ⟨enter n ds, m⟩)
/-- an __init__ of a class: slot 0 is the new object -/
def leaveI (c : Nat) : Ctl → R
  | .nx ⟨.slf k fs :: _, m⟩ => if k = c then .ok (.obj c fs) .fresh m else .bad
  | .exc k fs e => .exc k fs e.mem
  | _ => .bad
theorem leaveI_obj {c : Nat} {r : Ctl} {d : D} {cl : Cl} {m : Mem} (h : leaveI c r = .ok d cl m) : ∃ fs, d = .obj c fs := by
  unfold leaveI at h
  split at h
  · split at h
    · cases h; exact ⟨_, rfl⟩
    · cases h
  · cases h
  · cases h
def fnI (c n : Nat) (b : XS) : F := fun ds m => leaveI c (b ⟨.slf c [] :: enter (n - 1) ds, m⟩)
/-- the same, the arguments borrowed: nothing of them is kept -/
def enterB (n : Nat) (ds : List D) : List S := ds.map S.bor ++ List.replicate (n - ds.length) S.no
def fnIB (c n : Nat) (b : XS) : F := fun ds m => leaveI c (b ⟨.slf c [] :: enterB (n - 1) ds, m⟩)
/-! ### more forms -/
/-- how many are in range(a, b, c), 0 < c -/
def rng3N (a b c : Int) : Nat := if a < b then ((b - a - 1) / c + 1).toNat else 0
def rng3 (a b c : Int) : List Int := (List.range (rng3N a b c)).map fun (i : Nat) => a + (i : Int) * c
def lr3S (m : Mem) : D → D → D → R
  | .int a, .int b, .int c => if (-4000000000 < a ∧ a < 4000000000) ∧ (-4000000000 < b ∧ b < 4000000000) ∧ (0 < c ∧ c < 1000000) ∧ b - a ≤ 1000000 then .ok (.lst ((rng3 a b c).map D.int)) .fresh m else .bad
  | _, _, _ => .bad
def listRng3 (a b c : X) : X := fun e => (a e).bind fun x _ m => (b (e.wm m)).bind fun y _ m => (c (e.wm m)).bind fun z _ m => lr3S m x y z
mutual
/-- names no place but the first n -/
def D.low (n : Nat) : D → Bool
  | .non | .int _ | .bl _ | .str _ | .frz _ => true
  | .tup xs => D.lows n xs
  | .lst xs => D.lows n xs
  | .obj _ xs => D.lows n xs
  | .dik kvs => D.lowI n kvs
  | .dtk kvs => D.lowT n kvs
  | .ptr k => decide (k < n)
def D.lows (n : Nat) : List D → Bool
  | [] => true
  | x :: xs => D.low n x && D.lows n xs
def D.lowI (n : Nat) : List (Int × D) → Bool
  | [] => true
  | (_, x) :: xs => D.low n x && D.lowI n xs
def D.lowT (n : Nat) : List (List Int × D) → Bool
  | [] => true
  | (_, x) :: xs => D.low n x && D.lowT n xs
end
def lowO (n : Nat) : Option D → Bool
  | some d => D.low n d
  | none => true
/-- the first places stand as they did, or name only each other -/
def Kept (m m' : Mem) : Prop := m'.take m.length = m ∨ (m'.take m.length).all (lowO m.length) = true
open Classical in
noncomputable def trM (m m' : Mem) (r : R) : R := if Kept m m' then r else .bad
/-- what is left of the memory behind a def: its own places are gone; a place of its own that it gives back is told by what stands there -/
def trO (n : Nat) (m : Mem) : Option D → R
  | some d => if D.low n d = true then .ok d .cold (m.take n) else .bad
  | none => .bad
def trV (n : Nat) (c : Cl) (m : Mem) (d : D) : R := match d with
  | .ptr k => if n ≤ k then trO n m (at_ m k) else .ok (.ptr k) .cold (m.take n)
  | d => if D.low n d = true then .ok d c (m.take n) else .bad
noncomputable def trimR (m : Mem) : R → R
  | .ok d c m' => trM m m' (trV m.length c m' d)
  | .exc k fs m' => trM m m' (if D.lows m.length fs = true then .exc k fs (m'.take m.length) else .bad)
  | .bad => .bad
noncomputable def trim (g : F) : F := fun ds m => trimR m (g ds m)
/-- for over a list that may stand in the memory: each turn reads it anew -/
def fpT (p : Pat) (b : XS) (e : Env) (go : Env → Ctl) : Option D → Ctl
  | some d => fO (fun e1 => fT go (b e1)) (p.put d e)
  | none => .nx e
def fpS (p : Pat) (b : XS) (e : Env) (go : Env → Ctl) (k : Nat) : Option D → Ctl
  | some (.lst ds) => fpT p b e go (ds[k]?)
  | _ => .bad
def forP (n : Nat) (p : Pat) (b : XS) : Nat → Nat → Env → Ctl
  | 0, _, _ => .bad
  | f + 1, k, e => fpS p b e (forP n p b f (k + 1)) k (at_ e.mem n)
def foR (p : Pat) (b : XS) (e : Env) : RA → Ctl
  | .ok ds _ m => forL p b ds (e.wm m)
  | _ => .bad
/-- a list, or a tuple, that stands still -/
def iaS (m : Mem) (c : Cl) (d : D) : RA := match d with
  | .tup ds => (if c = .cold then .ok ds false m else .bad)
  | d => ilS m c d
def fxV (p : Pat) (b : XS) (e : Env) (c : Cl) (m : Mem) (d : D) : Ctl := match d with
  | .ptr n => forP n p b 1000001 0 (e.wm m)
  | d => foR p b e (iaS m c d)
def fxS (p : Pat) (b : XS) (e : Env) : R → Ctl
  | .ok d c m => fxV p b e c m d
  | _ => .bad
def sforx (a : X) (p : Pat) (b : XS) : XS := fun e => fxS p b e (a e)
/-- tuple * n -/
def rtS (c : Cl) (m : Mem) : D → D → R
  | .tup xs, .int k => if 1 ≤ k ∧ k ≤ 1000 ∧ xs.isEmpty = false ∧ xs.length ≤ 1000 then .ok (.tup (repD xs k)) (part c (.tup (repD xs k))) m else .bad
  | _, _ => .bad
def rept (a b : X) : X := fun e => (a e).bind fun x c m => (b (e.wm m)).bind fun y _ m => rd m x c fun x c => rtS c m x y
/-! ### [.. for i, j in d], d a dict at a place with tuples for keys -/
def tupK (k : List Int) : D := .tup (k.map .int)
def lcdT (n : Nat) (x0 : D) : Option (List D × Mem) → R
  | some (ys, m) => .ok (.lst ys) .fresh (m.set n (some x0))
  | none => .bad
def lcdU (own : List Nat) (is : List Nat) (t : XB) (x : X) (e : Env) (n : Nat) (kvs : List (List Int × D)) : R → R
  | .ok (.ptr k) _ m1 => if k = n then lcdT n (.dtk kvs) (lcLoop (.tp is) t x (wipeE e own) (kvs.map fun kv => tupK kv.1) m1 []) else .bad
  | _ => .bad
def lcdS (own : List Nat) (a : X) (is : List Nat) (t : XB) (x : X) (e : Env) (n : Nat) : Option D → R
  | some (.dtk kvs) => lcdU own is t x e n kvs (a (e.wm (e.mem.set n none)))
  | _ => .bad
def lcdR (own : List Nat) (a : X) (is : List Nat) (t : XB) (x : X) (e : Env) : R → R
  | .ok (.ptr n) _ _ => lcdS own a is t x e n (at_ e.mem n)
  | _ => .bad
def lcd (own : List Nat) (a : X) (is : List Nat) (t : XB) (x : X) : X := fun e => lcdR own a is t x e (a e)
/-! ### an __init__ that works on the new object as a place of the memory: its fields' own places are gone behind it -/
def resO (n : Nat) (m : Mem) (d : D) : Option D := match d with
  | .ptr k => if n < k then (at_ m k).bind (fun d => if D.low n d = true then some d else none) else if k < n then some (.ptr k) else none
  | d => if D.low n d = true then some d else none
def resL (n : Nat) (m : Mem) : List D → Option (List D)
  | [] => some []
  | d :: r => (resO n m d).bind fun x => (resL n m r).map (x :: ·)
def resJ (c n : Nat) (m : Mem) : Option (List D) → R
  | some es => .ok (.obj c es) .fresh (m.take n)
  | none => .bad
def resI (c n : Nat) (m : Mem) : Option D → R
  | some (.obj k fs) => if k = c then resJ c n m (resL n m fs) else .bad
  | _ => .bad
noncomputable def initR (c : Nat) (m : Mem) : R → R
  | .ok .non _ m' => trM m m' (resI c m.length m' (at_ m' m.length))
  | .exc k fs m' => trM m m' (if D.lows m.length fs = true ∧ (at_ m' m.length).isSome = true then .exc k fs (m'.take m.length) else .bad)
  | _ => .bad
noncomputable def initF (c : Nat) (g : F) : F := fun ds m => initR c m (g (.ptr m.length :: ds) (m ++ [some (.obj c [])]))
theorem initF_obj {c : Nat} {g : F} : ∀ ds m d cl m', initF c g ds m = .ok d cl m' → ∃ fs, d = .obj c fs := by
  intro ds m d cl m' h
  unfold initF at h
  cases q : g (.ptr m.length :: ds) (m ++ [some (.obj c [])]) with
  | bad => rw [q] at h; cases h
  | exc k fs m1 =>
    rw [q] at h
    unfold initR trM at h
    simp only [] at h
    split at h
    · split at h <;> cases h
    · cases h
  | ok d1 c1 m1 =>
    rw [q] at h
    cases d1 with
    | non =>
      unfold initR trM at h
      simp only [] at h
      split at h
      · cases z : at_ m1 m.length with
        | none => rw [z] at h; cases h
        | some x =>
          rw [z] at h
          cases x with
          | obj k fs =>
            have h : (if k = c then resJ c m.length m1 (resL m.length m1 fs) else R.bad) = .ok d cl m' := h
            split at h
            · cases z2 : resL m.length m1 fs with
              | none => rw [z2] at h; cases h
              | some es => rw [z2] at h; cases h; exact ⟨es, rfl⟩
            · cases h
          | _ => cases h
      · cases h
    | _ => cases h
/-- sorted(d), d a dict with whole numbers for keys -/
def sdD (m : Mem) : D → R
  | .dik kvs => if kvs.length ≤ most then .ok (.lst ((sortI (kvs.map (·.1))).map D.int)) .fresh m else .bad
  | _ => .bad
def sortedD (a : X) : X := fun e => (a e).bind fun x c m => rd m x c fun x _ => sdD m x
/-- isinstance(o, C), o an object of the class n -/
def isoS (n : Nat) (r : Bool) (m : Mem) : D → R
  | .obj k _ => if k = n then .ok (.bl r) .cold m else .bad
  | _ => .bad
def iso (n : Nat) (r : Bool) (a : X) : X := fun e => (a e).bind fun d c m => rd m d c fun d _ => isoS n r m d
/-- a list, its items looked up where only their places are told -/
def deep1 (m : Mem) (d : D) : Option D := match d with
  | .ptr n => at_ m n
  | d => some d
def deepL (m : Mem) : List D → Option (List D)
  | [] => some []
  | d :: r => (deep1 m d).bind fun x => (deepL m r).map (x :: ·)
def deepD (m : Mem) (d : D) : Option D := match d with
  | .lst xs => (deepL m xs).map D.lst
  | .tup xs => (deepL m xs).map D.tup
  | d => some d
def dpT (m : Mem) (f : D → D → Option D) (x : D) : Option D → R
  | some y => ofO m (f x y)
  | none => .bad
def dpS (m : Mem) (f : D → D → Option D) (y : D) : Option D → R
  | some x => dpT m f x (deepD m y)
  | none => .bad
def op2M (f : D → D → Option D) (a b : X) : X := fun e => (a e).bind fun x c m => (b (e.wm m)).bind fun y c' m => rd m x c fun x _ => rd m y c' fun y _ => dpS m f y (deepD m x)
/-- list(d) -/
def ldS (m : Mem) : D → R
  | .dtk kvs => if kvs.length ≤ most then .ok (.lst (kvs.map fun kv => tupK kv.1)) .fresh m else .bad
  | .dik kvs => if kvs.length ≤ most then .ok (.lst (kvs.map fun kv => .int kv.1)) .fresh m else .bad
  | _ => .bad
def listD (a : X) : X := fun e => (a e).bind fun x c m => rd m x c fun x _ => ldS m x
/-! ### lists of data: x in l, l.index(x), len(set(l)) -/
def dataL (x : D) (ds : List D) : Bool := x.plain && D.plains ds && decide (x.depth ≤ 64) && decide ((D.lst ds).depth ≤ 64)
def opInD (x : D) : D → Option D
  | .lst ds => if dataL x ds = true then some (.bl (ds.any fun y => D.eqv y x)) else none
  | _ => none
def opNotInD (x : D) : D → Option D
  | .lst ds => if dataL x ds = true then some (.bl (!ds.any fun y => D.eqv y x)) else none
  | _ => none
def fIndex (y : D) : D → Option D
  | .lst ds => if dataL y ds = true then (ds.findIdx? fun z => D.eqv z y).map fun j => .int (j : Nat) else none
  | _ => none
def isLs : D → Bool
  | .lst _ => true
  | _ => false
def lindex (o a : X) : X := fun e => (o e).bind fun x _ m => if isLs x = true then (a (e.wm m)).bind fun y c m => rd m y c fun y _ => ofO m (fIndex y x) else .bad
def tupsD : List D → Option (List (List Int))
  | [] => some []
  | .tup xs :: r => (intsD xs).bind fun k => (tupsD r).map (k :: ·)
  | _ :: _ => none
def lsT : Option (List (List Int)) → Option D
  | some ks => if ks.Nodup ∧ ks.length < 64 then some (.int (ks.length : Nat)) else none
  | none => none
def fLenSet : D → Option D
  | .lst ds => lsT (tupsD ds)
  | _ => none
def lenSet (a : X) : X := fun e => (a e).bind fun x c m => rd m x c fun x _ => ofO m (fLenSet x)
/-! ### tuples of whole numbers in order, lists of them -/
def lexLt : List Int → List Int → Bool
  | [], [] => false
  | [], _ :: _ => true
  | _ :: _, [] => false
  | x :: xs, y :: ys => if x = y then lexLt xs ys else decide (x < y)
def ltT2 (a b : Option (List Int)) : Option D := a.bind fun xs => b.map fun ys => D.bl (lexLt xs ys)
/-- t < u -/
def opLtT (x y : D) : Option D := match x, y with
  | .tup xs, .tup ys => ltT2 (intsD xs) (intsD ys)
  | _, _ => none
def minL (k : List Int) (ks : List (List Int)) : List Int := ks.foldl (fun a y => if lexLt y a = true then y else a) k
def mnS (c : Cl) (m : Mem) : Option (List (List Int)) → R
  | some (k :: ks) => .ok (.tup ((minL k ks).map .int)) (part c (.tup ((minL k ks).map .int))) m
  | _ => .bad
def mnT (c : Cl) (m : Mem) : D → R
  | .lst ds => if ds.length ≤ most then mnS c m (tupsD ds) else .bad
  | _ => .bad
/-- min(l), l a list of tuples of whole numbers -/
def minTx (a : X) : X := fun e => (a e).bind fun x c m => rd m x c fun x c => mnT c m x
def rvS (c : Cl) (m : Mem) : D → R
  | .lst xs => .ok (.lst xs.reverse) (again c xs.reverse) m
  | _ => .bad
/-- l[::-1] -/
def revx (a : X) : X := fun e => (a e).bind fun x c m => rd m x c fun x c => rvS c m x
def rmT (i : Nat) (e : Env) (ds : List D) : Option D → Ctl
  | some (.int j) => .nx (e.set i (.hot (.lst (ds.eraseIdx j.toNat))))
  | _ => .bad
def rmS (i : Nat) (a : X) (e : Env) : Option S → Ctl
  | some (.hot (.lst ds)) => (a e).bindS e fun d c m => rmT i (e.wm m) ds (fIndex d (.lst ds))
  | _ => .bad
/-- l.remove(a), l a list of the frame's -/
def srem (i : Nat) (a : X) : XS := fun e => rmS i a e (e.get i)
def inT (i : Nat) (e : Env) (ds : List D) (d : D) : D → Ctl
  | .int n => if (0 ≤ n ∧ n < 4000000000) ∧ ds.length < most then .nx (e.set i (.hot (.lst (ds.take n.toNat ++ [d] ++ ds.drop n.toNat)))) else .bad
  | _ => .bad
def inS (i : Nat) (k a : X) (e : Env) : Option S → Ctl
  | some (.hot (.lst ds)) => (k e).bindS e fun y _ m => (a (e.wm m)).bindS e fun d c m => if dirty c d = true then .bad else inT i (e.wm m) ds d y
  | _ => .bad
/-- l.insert(k, a) -/
def sins (i : Nat) (k a : X) : XS := fun e => inS i k a e (e.get i)
/-- [.. for .. in l], l a list of the frame's: it stands still meanwhile -/
def ihS (m : Mem) : Option S → RA
  | some (.hot (.lst ds)) => .ok ds false m
  | _ => .bad
def ihot (i : Nat) : XI := fun e => ihS e.mem (e.get i)
/-! ### try with several clauses 'except C as n' -/
def tyB (i : Nat) (h : XS) (k : Nat) (fs : List D) (e1 : Env) (rest : Ctl) : Option Bool → Ctl
  | some true => sufC i (h ((offE e1).set i (.exn k fs)))
  | some false => rest
  | none => .bad
def tyX (i : Nat) : List ((Nat → Option Bool) × XS) → Nat → List D → Env → Ctl
  | [], k, fs, e1 => .exc k fs e1
  | (m, h) :: r, k, fs, e1 => tyB i h k fs e1 (tyX i r k fs e1) (m k)
def trN (i : Nat) (cl : List ((Nat → Option Bool) × XS)) : Ctl → Ctl
  | .exc k fs e1 => tyX i cl k fs e1
  | r => r
def stryM (i : Nat) (cl : List ((Nat → Option Bool) × XS)) (b : XS) : XS := fun e => trN i cl (b e)
/-- for .. in reversed(l) -/
def irS (m : Mem) : Cl → D → RA
  | .cold, .lst ds => .ok ds.reverse false m
  | .fresh, .lst ds => .ok ds.reverse false m
  | _, _ => .bad
def irev (a : X) : XI := fun e => (a e).bindA fun x c m => irS m c x
/-- sorted(set(l)), l a list of whole numbers: each once, rising -/
def uniqI : List Int → List Int
  | [] => []
  | x :: r => if x ∈ r then uniqI r else x :: uniqI r
def ssT (m : Mem) : Option (List Int) → R
  | some ns => if ns.length < 63 then .ok (.lst ((sortI (uniqI ns)).map D.int)) .fresh m else .bad
  | none => .bad
def ssS (m : Mem) : D → R
  | .lst ds => ssT m (intsD ds)
  | _ => .bad
def sortSet (a : X) : X := fun e => (a e).bind fun x c m => rd m x c fun x _ => ssS m x
/-! ### enumerate, zip, int, < of numbers or tuples, o.f += a -/
def enumD (ds : List D) : List D := ds.zipIdx.map fun p => .tup [.int (p.2 : Nat), p.1]
def ieS (m : Mem) : Cl → D → RA
  | .cold, .lst ds => .ok (enumD ds) false m
  | .fresh, .lst ds => .ok (enumD ds) false m
  | _, _ => .bad
def ienum (a : X) : XI := fun e => (a e).bindA fun x c m => ieS m c x
def zipD (xs ys : List D) : List D := (xs.zip ys).map fun p => .tup [p.1, p.2]
def izT (m : Mem) (xs : List D) : Cl → D → RA
  | .cold, .lst ys => .ok (zipD xs ys) false m
  | .fresh, .lst ys => .ok (zipD xs ys) false m
  | _, _ => .bad
def izS (m : Mem) (c' : Cl) (y : D) : Cl → D → RA
  | .cold, .lst xs => izT m xs c' y
  | .fresh, .lst xs => izT m xs c' y
  | _, _ => .bad
def izip (a b : X) : XI := fun e => (a e).bindA fun x c m => (b (e.wm m)).bindA fun y c' m => izS m c' y c x
@[simp] def fInt : D → Option D
  | .int i => some (.int i)
  | .bl b => some (.int (if b = true then 1 else 0))
  | _ => none
def opLtA (x y : D) : Option D := match x, y with
  | .int i, .int j => some (.bl (decide (i < j)))
  | .tup xs, .tup ys => ltT2 (intsD xs) (intsD ys)
  | _, _ => none
/-- o.f += a, o a place -/
def fgetF (n k : Nat) : D → Option D
  | .obj q ds => if q = n then ds[k]? else none
  | _ => none
def sgU (n k q : Nat) (e : Env) (m : Mem) : Option D → Ctl
  | some z => ptT (fputF n k z) e m (.ptr q)
  | none => .bad
def sgT (n k q : Nat) (f : D → D → Option D) (a : X) (e : Env) (m : Mem) : Option D → Ctl
  | some x => (a (e.wm m)).bindS e fun y _ m => sgU n k q e m (f x y)
  | none => .bad
def sgS (n k : Nat) (f : D → D → Option D) (a : X) (e : Env) (m : Mem) : D → Ctl
  | .ptr q => sgT n k q f a e m ((at_ m q).bind (fgetF n k))
  | _ => .bad
def saugP (n k : Nat) (f : D → D → Option D) (o a : X) : XS := fun e => (o e).bindS e fun p _ m => sgS n k f a e m p
/-- * of great numbers -/
def wideI (i : Int) : Bool := decide (i.natAbs.log2 < 4000000)
def opMulB : D → D → Option D
  | .int i, .int j => if (wideI i && wideI j) = true then some (.int (i * j)) else none
  | _, _ => none
/-- a number of the script -/
def bitsI (i : Int) : Prop := i.natAbs.log2 < 2000000
/-! ### sorted(l, key=f): f gives unlike whole numbers -/
def keyR (m : Mem) : R → Option Int
  | .ok (.int k) _ m' => if m'.length = m.length then some k else none
  | _ => none
def keysL (g : F) (m : Mem) : List D → Option (List Int)
  | [] => some []
  | d :: r => (keyR m (g [d] (dead m))).bind fun k => (keysL g m r).map (k :: ·)
def sortP (ps : List (Int × D)) : List (Int × D) := ps.mergeSort fun a b => decide (a.1 ≤ b.1)
def sortT (c : Cl) (m : Mem) (ds : List D) : Option (List Int) → R
  | some ks => if ks.Nodup ∧ ds.length ≤ 1000 then .ok (.lst ((sortP (ks.zip ds)).map (·.2))) (again c ds) m else .bad
  | none => .bad
def skD (g : F) (c : Cl) (m : Mem) : D → R
  | .lst ds => sortT c m ds (keysL g m ds)
  | _ => .bad
def sortK (g : F) (a : X) : X := fun e => (a e).bind fun x c m => rd m x c fun x c => skD g c m x
/-! ### len(set(l)), l unlike whole numbers -/
def lnI : Option (List Int) → Option D
  | some ks => if ks.Nodup ∧ ks.length < 64 then some (.int (ks.length : Nat)) else none
  | none => none
def fLenSetI : D → Option D
  | .lst ds => lnI (intsD ds)
  | _ => none
def lenSetI (a : X) : X := fun e => (a e).bind fun x c m => rd m x c fun x _ => ofO m (fLenSetI x)
/-! ### l == [] -/
def opEqE : D → D → Option D
  | .lst xs, .lst [] => some (.bl xs.isEmpty)
  | _, _ => none
/-! ### tuple + tuple, either may be empty -/
def ctA (c c' : Cl) (m : Mem) : D → D → R
  | .tup xs, .tup ys => if xs.length + ys.length ≤ most then (if xs = [] then .ok (.tup ys) (part c' (.tup ys)) m else if ys = [] then .ok (.tup xs) (part c (.tup xs)) m else .ok (.tup (xs ++ ys)) (if (c = .taint ∨ c' = .taint) then .taint else .cold) m) else .bad
  | _, _ => .bad
def catA (a b : X) : X := fun e => (a e).bind fun x c m => (b (e.wm m)).bind fun y c' m => rd m x c fun x c => rd m y c' fun y c' => ctA c c' m x y
/-! ### < of tuples of whole numbers and of tuples of whole numbers -/
def okN : List D → List D → Bool
  | [], [] => true
  | .int _ :: xs, .int _ :: ys => okN xs ys
  | .tup a :: xs, .tup b :: ys => if (intsD a).isSome = true then (if (intsD b).isSome = true then okN xs ys else false) else false
  | _, _ => false
def lexN : List D → List D → Bool
  | .int i :: xs, .int j :: ys => if i = j then lexN xs ys else decide (i < j)
  | .tup a :: xs, .tup b :: ys => if intsD a = intsD b then lexN xs ys else lexLt ((intsD a).getD []) ((intsD b).getD [])
  | _, _ => false
def opLtN : D → D → Option D
  | .tup xs, .tup ys => if okN xs ys = true then some (.bl (lexN xs ys)) else none
  | _, _ => none
/-! ### l.pop(), l at a place -/
def ppT (n : Nat) (m : Mem) (ds : List D) : Option D → R
  | some x => .ok x .cold (m.set n (some (.lst ds.dropLast)))
  | none => .bad
def ppL (n : Nat) (m : Mem) : Option D → R
  | some (.lst ds) => ppT n m ds (ds[ds.length - 1]?)
  | _ => .bad
def ppS (m : Mem) : D → R
  | .ptr n => ppL n m (at_ m n)
  | _ => .bad
def popP (o : X) : X := fun e => (o e).bind fun p _ m => ppS m p
/-! ### a list at a place stands still from here on -/
def sthT (i : Nat) (e : Env) (n : Nat) : Option D → Ctl
  | some (.lst ds) => .nx ((e.wm (e.mem.set n none)).set i (.cold (.lst ds)))
  | _ => .bad
def sthS (i : Nat) (e : Env) : Option S → Ctl
  | some (.cold (.ptr n)) => sthT i e n (at_ e.mem n)
  | _ => .bad
def sthaw (i : Nat) : XS := fun e => sthS i e (e.get i)
/-! ### sorted(t), a tuple of whole numbers -/
def sttS (m : Mem) : D → R
  | .tup ds => soT m (intsD ds)
  | _ => .bad
def sortedTI (a : X) : X := fun e => (a e).bind fun x c m => rd m x c fun x _ => sttS m x
/-! ### min of tuples as of lexN; l.remove(a), l at a place -/
def tnOk : D → D → Bool
  | .tup xs, .tup ys => okN xs ys
  | _, _ => false
def tnLt : D → D → Bool
  | .tup xs, .tup ys => lexN xs ys
  | _, _ => false
def minN (x : D) (ds : List D) : D := ds.foldl (fun a y => if tnLt y a = true then y else a) x
def mnO (c : Cl) (m : Mem) : List D → R
  | x :: ds => if ((x :: ds).all fun a => (x :: ds).all fun b => tnOk a b) = true then .ok (minN x ds) (part c (minN x ds)) m else .bad
  | [] => .bad
def mnU (c : Cl) (m : Mem) : D → R
  | .lst ds => if ds.length ≤ most then mnO c m ds else .bad
  | _ => .bad
def minTN (a : X) : X := fun e => (a e).bind fun x c m => rd m x c fun x c => mnU c m x
def fremT (ds : List D) : Option D → Option D
  | some (.int j) => some (.lst (ds.eraseIdx j.toNat))
  | _ => none
def frem (d : D) : D → Option D
  | .lst ds => fremT ds (fIndex d (.lst ds))
  | _ => none
def sremP (o a : X) : XS := fun e => (o e).bindS e fun p _ m => if lsM m p = true then (a (e.wm m)).bindS e fun d c m => ptT (frem d) e m p else .bad
end Q

set_option Elab.async false
set_option linter.all false
set_option maxRecDepth 100000
set_option maxHeartbeats 4000000
/-! The walk's side: how the forms' plain meaning (Qd) is what the machine does. Canonical readings tE, tT, tA, tS over the layer. -/
namespace QW
open PySem PySem.Spec PyProof.Rows L2
open Q (D S R RA RB Ctl Cl Pat Mem)

structure Cfg where
  K : PySem.W.Frag
  cls : Nat → Addr
  names : Nat → List Str
  exn : Option (Addr × Value × Option Addr) := none

/-- a part of the heap, and the names of the memory's places -/
structure Reg where
  p : Addr → Prop
  mu : List Addr
instance : CoeFun Reg fun _ => Addr → Prop := ⟨Reg.p⟩
def Reg.but (A : Reg) (q : Addr) : Reg := ⟨fun a => A.p a ∧ a ≠ q, A.mu⟩
theorem rd_mono {H H' : Hp} {a : Addr} {u : HO} (s : ∀ o, H a = some o → H' a = some o) (h : Rd H a u) : Rd H' a u := by
  rcases h with h | ⟨o, h⟩
  · exact .inl (s _ h)
  · exact .inr ⟨o, s _ h⟩
def KL (K : PySem.W.Frag) (a : Addr) (xs : List V) : Prop :=
  ∃ (o : Obj) (its : Array Value) (n : Nat), K.lookup a = some o ∧ o.cls = .type "list" ∧ o.dict = none ∧ o.data = .seq its n ∧ its.size ≤ sizeLine ∧ Vals xs its.toList

inductive Rep (G : Cfg) (A : Reg) (H : Hp) : V → D → Prop
  | non : Rep G A H .non .non
  | bl (b : Bool) : Rep G A H (.bl b) (.bl b)
  | int (i : Int) : Rep G A H (.int i) (.int i)
  | str (x : Str) : Rep G A H (.str x) (.str x)
  | lst {a : Addr} {vs : List V} {ds : List D} (ha : A.p a) (h : H a = some (.lst vs)) (hl : vs.length = ds.length) (hr : ∀ (i : Nat) v d, vs[i]? = some v → ds[i]? = some d → Rep G A H v d) : Rep G A H (.ref a) (.lst ds)
  | tup {a : Addr} {vs : List V} {ds : List D} (ha : A.p a) (h : H a = some (.tup vs)) (hl : vs.length = ds.length) (hr : ∀ (i : Nat) v d, vs[i]? = some v → ds[i]? = some d → Rep G A H v d) : Rep G A H (.ref a) (.tup ds)
  | frz {a : Addr} {ns : List Int} (h : (A.p a ∧ Rd H a (.lst (ns.map V.int))) ∨ KL G.K a (ns.map V.int)) : Rep G A H (.ref a) (.frz ns)
  | obj {a dx : Addr} {c : Nat} {vs : List V} {ds : List D} (ha : A.p a) (h : H a = some (.ins (G.cls c) dx ((G.names c).zip vs))) (hl : vs.length = ds.length) (hr : ∀ (i : Nat) v d, vs[i]? = some v → ds[i]? = some d → Rep G A H v d) : Rep G A H (.ref a) (.obj c ds)
  | dik {a : Addr} {ws : List (Key × V)} {kvs : List (Int × D)} (ha : A.p a) (h : H a = some (.dK ws)) (hl : ws.length = kvs.length) (hk : ∀ (i : Nat) w x, ws[i]? = some w → kvs[i]? = some x → w.1 = Sum.inl x.1) (hr : ∀ (i : Nat) w x, ws[i]? = some w → kvs[i]? = some x → Rep G A H w.2 x.2) : Rep G A H (.ref a) (.dik kvs)
  | dtk {a : Addr} {ws : List (List Key × V)} {kvs : List (List Int × D)} (ha : A.p a) (h : H a = some (.dT ws)) (hl : ws.length = kvs.length) (hk : ∀ (i : Nat) w x, ws[i]? = some w → kvs[i]? = some x → w.1 = x.1.map Sum.inl) (hr : ∀ (i : Nat) w x, ws[i]? = some w → kvs[i]? = some x → Rep G A H w.2 x.2) : Rep G A H (.ref a) (.dtk kvs)
  | ptr {a : Addr} {n : Nat} (h : A.mu[n]? = some a) : Rep G A H (.ref a) (.ptr n)
def Reps (G : Cfg) (A : Reg) (H : Hp) (vs : List V) (ds : List D) : Prop := vs.length = ds.length ∧ ∀ (i : Nat) v d, vs[i]? = some v → ds[i]? = some d → Rep G A H v d
def RepI (G : Cfg) (A : Reg) (H : Hp) (ws : List (Key × V)) (kvs : List (Int × D)) : Prop := ws.length = kvs.length ∧ ∀ (i : Nat) w x, ws[i]? = some w → kvs[i]? = some x → w.1 = Sum.inl x.1 ∧ Rep G A H w.2 x.2
def RepT (G : Cfg) (A : Reg) (H : Hp) (ws : List (List Key × V)) (kvs : List (List Int × D)) : Prop := ws.length = kvs.length ∧ ∀ (i : Nat) w x, ws[i]? = some w → kvs[i]? = some x → w.1 = x.1.map Sum.inl ∧ Rep G A H w.2 x.2
/-- what stands at p is the thing d -/
def Con (G : Cfg) (A : Reg) (H : Hp) (p : Addr) : D → Prop
  | .lst ds => ∃ vs, H p = some (.lst vs) ∧ Reps G A H vs ds
  | .obj c ds => ∃ dx vs, H p = some (.ins (G.cls c) dx ((G.names c).zip vs)) ∧ Reps G A H vs ds
  | .dik kvs => ∃ ws, H p = some (.dK ws) ∧ RepI G A H ws kvs
  | .dtk kvs => ∃ ws, H p = some (.dT ws) ∧ RepT G A H ws kvs
  | _ => False
/-- B has what A has, and H' what H has there -/
structure Sub (A : Reg) (H : Hp) (B : Reg) (H' : Hp) : Prop where
  go : ∀ a o, A.p a → H a = some o → B.p a ∧ H' a = some o
  mu : A.mu <+: B.mu
theorem pre_get {α : Type} {l m : List α} (h : l <+: m) {n : Nat} {a : α} (e : l[n]? = some a) : m[n]? = some a := by
  obtain ⟨t, rfl⟩ := h
  rw [List.getElem?_append_left (List.getElem?_eq_some_iff.mp e).1]
  exact e
section
variable {G : Cfg} {A B : Reg} {H H' : Hp} {v : V} {d : D} {vs : List V} {ds : List D} {p : Addr}
theorem Sub.rfl' : Sub A H A H := ⟨fun _ _ a b => ⟨a, b⟩, List.prefix_refl _⟩
theorem Sub.trans {C : Reg} {H2 : Hp} (s : Sub A H B H') (t : Sub B H' C H2) : Sub A H C H2 := ⟨fun a o x y => by
  obtain ⟨x, y⟩ := s.go a o x y
  exact t.go a o x y, s.mu.trans t.mu⟩
theorem Rep.sub (h : Rep G A H v d) (s : Sub A H B H') : Rep G B H' v d := by
  induction h with
  | non => exact .non
  | bl b => exact .bl b
  | int i => exact .int i
  | str x => exact .str x
  | lst ha h hl _ ih => exact .lst (s.go _ _ ha h).1 (s.go _ _ ha h).2 hl ih
  | tup ha h hl _ ih => exact .tup (s.go _ _ ha h).1 (s.go _ _ ha h).2 hl ih
  | frz h =>
    refine .frz ?_
    rcases h with ⟨ha, h⟩ | h
    · refine .inl ?_
      rcases h with h | ⟨o, h⟩
      · exact ⟨(s.go _ _ ha h).1, .inl (s.go _ _ ha h).2⟩
      · exact ⟨(s.go _ _ ha h).1, .inr ⟨o, (s.go _ _ ha h).2⟩⟩
    · exact .inr h
  | obj ha h hl _ ih => exact .obj (s.go _ _ ha h).1 (s.go _ _ ha h).2 hl ih
  | dik ha h hl hk _ ih => exact .dik (s.go _ _ ha h).1 (s.go _ _ ha h).2 hl hk ih
  | dtk ha h hl hk _ ih => exact .dtk (s.go _ _ ha h).1 (s.go _ _ ha h).2 hl hk ih
  | ptr h => exact .ptr (pre_get s.mu h)
theorem Reps.sub (h : Reps G A H vs ds) (s : Sub A H B H') : Reps G B H' vs ds := ⟨h.1, fun i v d a b => (h.2 i v d a b).sub s⟩
theorem RepI.sub {ws : List (Key × V)} {kvs : List (Int × D)} (h : RepI G A H ws kvs) (s : Sub A H B H') : RepI G B H' ws kvs := ⟨h.1, fun i v d a b => ⟨(h.2 i v d a b).1, (h.2 i v d a b).2.sub s⟩⟩
theorem RepT.sub {ws : List (List Key × V)} {kvs : List (List Int × D)} (h : RepT G A H ws kvs) (s : Sub A H B H') : RepT G B H' ws kvs := ⟨h.1, fun i v d a b => ⟨(h.2 i v d a b).1, (h.2 i v d a b).2.sub s⟩⟩
theorem Con.sub (h : Con G A H p d) (s : Sub A H B H') (hp : ∀ o, H p = some o → H' p = some o) : Con G B H' p d := by
  cases d with
  | lst ds => obtain ⟨vs, a, b⟩ := h; exact ⟨vs, hp _ a, b.sub s⟩
  | obj c ds => obtain ⟨dx, vs, a, b⟩ := h; exact ⟨dx, vs, hp _ a, b.sub s⟩
  | dik kvs => obtain ⟨ws, a, b⟩ := h; exact ⟨ws, hp _ a, b.sub s⟩
  | dtk kvs => obtain ⟨ws, a, b⟩ := h; exact ⟨ws, hp _ a, b.sub s⟩
  | _ => exact h.elim
theorem Con.some (h : Con G A H p d) : H p ≠ none := by
  cases d with
  | lst ds => obtain ⟨vs, a, b⟩ := h; rw [a]; exact fun z => nomatch z
  | obj c ds => obtain ⟨dx, vs, a, b⟩ := h; rw [a]; exact fun z => nomatch z
  | dik kvs => obtain ⟨ws, a, b⟩ := h; rw [a]; exact fun z => nomatch z
  | dtk kvs => obtain ⟨ws, a, b⟩ := h; rw [a]; exact fun z => nomatch z
  | _ => exact h.elim
/-- a thing that stands in the region is a datum -/
theorem Con.rep (h : Con G A H p d) (hp : A.p p) : Rep G A H (.ref p) d := by
  cases d with
  | lst ds => obtain ⟨vs, a, b⟩ := h; exact .lst hp a b.1 b.2
  | obj c ds => obtain ⟨dx, vs, a, b⟩ := h; exact .obj hp a b.1 b.2
  | dik kvs => obtain ⟨ws, a, b⟩ := h; exact .dik hp a b.1 (fun i w x e f => (b.2 i w x e f).1) fun i w x e f => (b.2 i w x e f).2
  | dtk kvs => obtain ⟨ws, a, b⟩ := h; exact .dtk hp a b.1 (fun i w x e f => (b.2 i w x e f).1) fun i w x e f => (b.2 i w x e f).2
  | _ => exact h.elim
def box : D → Bool
  | .lst _ | .obj _ _ | .dik _ | .dtk _ => true
  | _ => false
theorem Con.box (h : Con G A H p d) : box d = true := by cases d <;> first | rfl | exact h.elim
theorem Rep.con (h : Rep G A H v d) (hb : QW.box d = true) : ∃ p, v = .ref p ∧ A.p p ∧ Con G A H p d := by
  cases h with
  | lst ha h hl hr => exact ⟨_, rfl, ha, _, h, hl, hr⟩
  | obj ha h hl hr => exact ⟨_, rfl, ha, _, _, h, hl, hr⟩
  | dik ha h hl hk hr => exact ⟨_, rfl, ha, _, h, hl, fun i w x a b => ⟨hk i w x a b, hr i w x a b⟩⟩
  | dtk ha h hl hk hr => exact ⟨_, rfl, ha, _, h, hl, fun i w x a b => ⟨hk i w x a b, hr i w x a b⟩⟩
  | _ => simp [QW.box] at hb
theorem Rep.scalar (h : Rep G A H v d) (s : d.scalar = true) : Rep G B H' v d := by
  cases h with
  | non => exact .non
  | bl b => exact .bl b
  | int i => exact .int i
  | str x => exact .str x
  | _ => simp [Q.D.scalar] at s
theorem Reps.nil : Reps G A H [] [] := ⟨rfl, fun i v d a => by simp at a⟩
theorem Reps.cons (h : Rep G A H v d) (r : Reps G A H vs ds) : Reps G A H (v :: vs) (d :: ds) := by
  refine ⟨by simp [r.1], fun i x y a b => ?_⟩
  cases i with
  | zero =>
    simp at a b
    subst a b
    exact h
  | succ i => exact r.2 i x y (by simpa using a) (by simpa using b)
theorem Reps.head (r : Reps G A H (v :: vs) (d :: ds)) : Rep G A H v d := r.2 0 v d rfl rfl
theorem Reps.tail (r : Reps G A H (v :: vs) (d :: ds)) : Reps G A H vs ds := ⟨by have := r.1; simpa using this, fun i x y a b => r.2 (i + 1) x y (by simpa using a) (by simpa using b)⟩
theorem Reps.nil_iff (r : Reps G A H vs ds) : vs = [] ↔ ds = [] := by
  have := r.1
  constructor
  · rintro rfl; exact List.length_eq_zero_iff.mp this.symm
  · rintro rfl; exact List.length_eq_zero_iff.mp this
theorem Reps.get (r : Reps G A H vs ds) {i : Nat} (h : ds[i]? = some d) : ∃ v, vs[i]? = some v ∧ Rep G A H v d := by
  have hi : i < vs.length := by rw [r.1]; exact (List.getElem?_eq_some_iff.mp h).1
  exact ⟨vs[i], List.getElem?_eq_getElem hi, r.2 i _ d (List.getElem?_eq_getElem hi) h⟩
theorem Reps.append {us : List V} {es : List D} (r : Reps G A H vs ds) (q : Reps G A H us es) : Reps G A H (vs ++ us) (ds ++ es) := by
  refine ⟨by simp [r.1, q.1], fun i v d a b => ?_⟩
  by_cases hi : i < vs.length
  · rw [List.getElem?_append_left hi] at a
    rw [List.getElem?_append_left (by rw [← r.1]; exact hi)] at b
    exact r.2 i v d a b
  · rw [List.getElem?_append_right (by omega)] at a
    rw [List.getElem?_append_right (by rw [← r.1]; omega), ← r.1] at b
    exact q.2 _ v d a b
theorem Reps.set (r : Reps G A H vs ds) (h : Rep G A H v d) (j : Nat) : Reps G A H (vs.set j v) (ds.set j d) := by
  refine ⟨by simp [r.1], fun i x y a b => ?_⟩
  by_cases e : j = i
  · subst e
    have h1 := (List.getElem?_eq_some_iff.mp a).1
    have h2 := (List.getElem?_eq_some_iff.mp b).1
    rw [List.getElem?_set_self (by simpa using h1)] at a
    rw [List.getElem?_set_self (by simpa using h2)] at b
    cases a; cases b
    exact h
  · rw [List.getElem?_set_ne e] at a b
    exact r.2 i x y a b
theorem Reps.drop (r : Reps G A H vs ds) (n : Nat) : Reps G A H (vs.drop n) (ds.drop n) := ⟨by simp [r.1], fun i x y a b => r.2 (n + i) x y (by simpa [List.getElem?_drop] using a) (by simpa [List.getElem?_drop] using b)⟩
theorem Reps.take (r : Reps G A H vs ds) (n : Nat) : Reps G A H (vs.take n) (ds.take n) := by
  refine ⟨by simp [r.1], fun i x y a b => ?_⟩
  rw [List.getElem?_take] at a b
  split at a
  · rename_i h; rw [if_pos h] at b; exact r.2 i x y a b
  · cases a
theorem Reps.intsD (r : Reps G A H vs ds) {ns : List Int} (h : ds = ns.map D.int) : vs = ns.map V.int := by
  subst h
  apply List.ext_getElem?
  intro i
  by_cases hi : i < ns.length
  · have e : (ns.map D.int)[i]? = some (.int ns[i]) := by rw [List.getElem?_map, List.getElem?_eq_getElem hi]; rfl
    obtain ⟨v, h1, h2⟩ := r.get e
    rw [h1, List.getElem?_map, List.getElem?_eq_getElem hi]
    cases h2
    rfl
  · have h1 : vs.length = ns.length := by simpa using r.1
    rw [List.getElem?_eq_none (by omega), List.getElem?_eq_none (by simpa using hi)]
theorem reps_ints (ns : List Int) : Reps G A H (ns.map V.int) (ns.map D.int) := by
  refine ⟨by simp, fun i v d a b => ?_⟩
  rw [List.getElem?_map] at a b
  cases e : ns[i]? with
  | none => rw [e] at a; cases a
  | some n =>
    rw [e] at a b
    cases a; cases b
    exact .int n
theorem Reps.bools (r : Reps G A H vs ds) {ns : List Bool} (h : ds = ns.map D.bl) : vs = ns.map V.bl := by
  subst h
  apply List.ext_getElem?
  intro i
  by_cases hi : i < ns.length
  · have e : (ns.map D.bl)[i]? = some (.bl ns[i]) := by rw [List.getElem?_map, List.getElem?_eq_getElem hi]; rfl
    obtain ⟨v, h1, h2⟩ := r.get e
    rw [h1, List.getElem?_map, List.getElem?_eq_getElem hi]
    cases h2
    rfl
  · have h1 : vs.length = ns.length := by simpa using r.1
    rw [List.getElem?_eq_none (by omega), List.getElem?_eq_none (by simpa using hi)]
theorem KL.sq {K : PySem.W.Frag} {a : Addr} {xs : List V} (h : KL K a xs) : SqL K H a xs := .inr h
/-- a list (of the frame's, or the script) as the layer reads it -/
theorem Rep.lstSq {a : Addr} (h : Rep G A H (.ref a) (.lst ds)) : ∃ vs, H a = some (.lst vs) ∧ SqL G.K H a vs ∧ Reps G A H vs ds := by
  cases h with
  | lst ha h hl hr => exact ⟨_, h, SqL.of h, hl, hr⟩
theorem Rep.tupSq {a : Addr} (h : Rep G A H (.ref a) (.tup ds)) : ∃ vs, H a = some (.tup vs) ∧ SqT G.K H a vs ∧ Reps G A H vs ds := by
  cases h with
  | tup ha h hl hr => exact ⟨_, h, SqT.of h, hl, hr⟩
theorem Rep.frzSq {a : Addr} {ns : List Int} (h : Rep G A H (.ref a) (.frz ns)) : SqL G.K H a (ns.map V.int) := by
  cases h with
  | frz h =>
    rcases h with ⟨_, h⟩ | h
    · exact .inl h
    · exact .inr h
theorem Rep.of_frz {a : Addr} {ns : List Int} (ha : A.p a) (h : SqL G.K H a (ns.map V.int)) : Rep G A H (.ref a) (.frz ns) := by
  rcases h with h | h
  · exact .frz (.inl ⟨ha, h⟩)
  · exact .frz (.inr h)
theorem Rep.int_inv {i : Int} (h : Rep G A H v (.int i)) : v = .int i := by cases h; rfl
theorem Rep.bl_inv {i : Bool} (h : Rep G A H v (.bl i)) : v = .bl i := by cases h; rfl
theorem Rep.str_inv {i : Str} (h : Rep G A H v (.str i)) : v = .str i := by cases h; rfl
theorem Rep.non_inv (h : Rep G A H v .non) : v = .non := by cases h; rfl
theorem Rep.lst_inv (h : Rep G A H v (.lst ds)) : ∃ a, v = .ref a := by cases h; exact ⟨_, rfl⟩
theorem Rep.tup_inv (h : Rep G A H v (.tup ds)) : ∃ a, v = .ref a := by cases h; exact ⟨_, rfl⟩
theorem Rep.frz_inv {ns : List Int} (h : Rep G A H v (.frz ns)) : ∃ a, v = .ref a := by cases h; exact ⟨_, rfl⟩
theorem Rep.obj_inv {c : Nat} (h : Rep G A H v (.obj c ds)) : ∃ a, v = .ref a := by cases h; exact ⟨_, rfl⟩
theorem Rep.ptr_inv {n : Nat} (h : Rep G A H v (.ptr n)) : ∃ a, v = .ref a ∧ A.mu[n]? = Option.some a := by cases h with | ptr h => exact ⟨_, rfl, h⟩
end

/-! ### a frame's slots -/
/-- a frame: what of the arguments is cold, the heap at the entry, the objects that it may change, what it only borrows, the memory's live places at the entry -/
structure Fm where
  A0 : Addr → Prop
  H0 : Hp
  ms : List Addr
  B : Addr → Prop
  cs0 : List Addr
  mu0 : List Addr
/-- where things are that change: those of the frame's slots, those of the memory; the names of the memory's places -/
structure Pl where
  hs : List Addr
  cs : List Addr
  mu : List Addr
def Cold (fm : Fm) (pl : Pl) : Reg := ⟨fun a => (fm.A0 a ∨ fm.H0 a = none ∨ a ∈ fm.cs0) ∧ a ∉ pl.hs ∧ a ∉ pl.cs, pl.mu⟩
def TR (fm : Fm) (pl : Pl) : Reg := ⟨fun a => ((fm.A0 a ∨ fm.H0 a = none ∨ a ∈ fm.cs0) ∨ a ∈ pl.hs ∨ fm.B a) ∧ a ∉ pl.cs, pl.mu⟩
/-- the same with what stands in the memory -/
def TM (fm : Fm) (pl : Pl) : Reg := ⟨fun a => (fm.A0 a ∨ fm.H0 a = none ∨ a ∈ fm.cs0) ∨ a ∈ pl.hs ∨ fm.B a, pl.mu⟩
/-- new since the frame began -/
def New (fm : Fm) (pl : Pl) : Addr → Prop := fun a => fm.H0 a = none ∧ a ∉ pl.hs ∧ a ∉ pl.cs
/-- an exception in the air: A where its fields' values lie, N where its own dict lies -/
def RepX (G : Cfg) (A : Reg) (N : Addr → Prop) (H : Hp) (cls : Value) (dd : Option Addr) (k : Nat) (fs : List D) : Prop :=
  cls = .ref (G.cls k) ∧ ((fs = [] ∧ dd = none) ∨ fs ≠ [] ∧ ∃ a fvs, dd = some a ∧ N a ∧ H a = some (.xd fvs) ∧ ∀ (i : Nat) f d, (G.names k)[i]? = some f → fs[i]? = some d → ∃ v, fvs.lookup f = some v ∧ Rep G A H v d)
theorem RepX.sub {G : Cfg} {A B : Reg} {N N' : Addr → Prop} {H H' : Hp} {cls : Value} {dd : Option Addr} {k : Nat} {fs : List D} (h : RepX G A N H cls dd k fs) (s : Sub A H B H') (n : ∀ a o, N a → H a = some o → N' a ∧ H' a = some o) : RepX G B N' H' cls dd k fs := by
  obtain ⟨e, h⟩ := h
  refine ⟨e, ?_⟩
  rcases h with h | ⟨h0, a, fvs, h1, hn, h2, h3⟩
  · exact .inl h
  · refine .inr ⟨h0, a, fvs, h1, (n _ _ hn h2).1, (n _ _ hn h2).2, fun i f d q r => ?_⟩
    obtain ⟨v, x, y⟩ := h3 i f d q r
    exact ⟨v, x, y.sub s⟩
def SlotOk (G : Cfg) (fm : Fm) (pl : Pl) (H : Hp) : S → Option (Option V) → Prop
  | .no, _ => True
  | .cold d, o => ∃ v, o = some (some v) ∧ Rep G (Cold fm pl) H v d
  | .hot d, o => ∃ p, o = some (some (.ref p)) ∧ p ∈ pl.hs ∧ fm.H0 p = none ∧ Con G (Cold fm pl) H p d
  | .slf c ds, o => ∃ p, o = some (some (.ref p)) ∧ p ∈ pl.hs ∧ p ∈ fm.ms ∧ Con G (Cold fm pl) H p (.obj c ds)
  | .bor d, o => ∃ v, o = some (some v) ∧ Rep G ⟨fm.B, pl.mu⟩ H v d
  | .exn k fs, o => ∃ a cls dd, G.exn = some (a, cls, dd) ∧ o = some (some (.ref a)) ∧ RepX G (Cold fm pl) (New fm pl) H cls dd k fs
def isHot : S → Prop
  | .hot _ => True
  | .slf _ _ => True
  | _ => False
/-- a tuple stands there -/
def TupH (H : Hp) (a : Addr) : Prop := ∃ xs, H a = some (.tup xs)
/-- there, and no tuple -/
def Lv (H : Hp) (a : Addr) : Prop := H a ≠ none ∧ ∀ xs, H a ≠ some (.tup xs)
/-- no tuple -/
def NT (o : HO) : Prop := ∀ xs, o ≠ .tup xs
theorem Lv.of {H : Hp} {a : Addr} {o : HO} (e : H a = some o) (n : NT o) : Lv H a := by
  refine ⟨?_, fun xs z => ?_⟩
  · rw [e]; exact fun z => nomatch z
  · rw [e] at z; exact n xs (Option.some.inj z)
theorem Lv.ex {H : Hp} {a : Addr} (h : Lv H a) : ∃ o, H a = some o ∧ NT o := by
  cases q : H a with
  | none => exact absurd q h.1
  | some o => exact ⟨o, rfl, fun xs z => h.2 xs (by rw [q, z])⟩
theorem Lv.keep {H H' : Hp} {a : Addr} (h : Lv H a) (k : ∀ o, H a = some o → H' a = some o) : Lv H' a := by
  obtain ⟨o, e, n⟩ := h.ex
  exact Lv.of (k o e) n
theorem Con.lv {G : Cfg} {A : Reg} {H : Hp} {p : Addr} {d : D} (h : Con G A H p d) : Lv H p := by
  cases d with
  | lst ds => obtain ⟨vs, a, b⟩ := h; exact Lv.of a fun _ z => nomatch z
  | obj c ds => obtain ⟨dx, vs, a, b⟩ := h; exact Lv.of a fun _ z => nomatch z
  | dik kvs => obtain ⟨ws, a, b⟩ := h; exact Lv.of a fun _ z => nomatch z
  | dtk kvs => obtain ⟨ws, a, b⟩ := h; exact Lv.of a fun _ z => nomatch z
  | _ => exact h.elim
/-- the memory, as it stands in the heap -/
structure MemOk (G : Cfg) (A : Reg) (cs : List Addr) (H : Hp) (m : Mem) : Prop where
  len : A.mu.length = m.length
  cell : ∀ (n : Nat) d, m[n]? = some (some d) → ∃ p, A.mu[n]? = some p ∧ p ∈ cs ∧ Con G A H p d
  inj : ∀ (n k : Nat) d e p, m[n]? = some (some d) → m[k]? = some (some e) → A.mu[n]? = some p → A.mu[k]? = some p → n = k
structure EnvOk (G : Cfg) (fm : Fm) (pl : Pl) (env : Q.Env) (ks : List (V × D)) (σ : L2.St) (H : Hp) : Prop where
  ex : ∀ a o, a ∉ fm.ms → fm.H0 a = some o → H a = some o
  dom : ∀ a, fm.H0 a ≠ none → H a ≠ none
  tA : ∀ a xs, fm.H0 a = some (.tup xs) → fm.A0 a
  len : σ.length = env.sl.length
  bor : ∀ a, fm.B a → fm.H0 a ≠ none ∧ a ∉ fm.ms
  c0 : ∀ a ∈ fm.cs0, a ∈ fm.ms
  mup : fm.mu0 <+: pl.mu
  ms0 : ∀ a ∈ fm.ms, fm.H0 a ≠ none
  msh : ∀ a ∈ fm.ms, a ∈ pl.hs ∨ a ∈ fm.cs0
  hn : ∀ a ∈ pl.hs, (a ∈ fm.ms ∧ a ∉ fm.cs0 ∧ fm.H0 a ≠ none ∨ fm.H0 a = none) ∧ Lv H a
  cn : ∀ a ∈ pl.cs, (a ∈ fm.cs0 ∨ fm.H0 a = none) ∧ Lv H a ∧ a ∉ pl.hs
  mem : MemOk G (Cold fm pl) pl.cs H env.mem
  slot : ∀ (i : Nat) s, env.sl[i]? = some s → SlotOk G fm pl H s σ[i]?
  inj : ∀ (i j : Nat) s t p, env.sl[i]? = some s → env.sl[j]? = some t → isHot s → isHot t → σ[i]? = some (some (.ref p)) → σ[j]? = some (some (.ref p)) → i = j
  fr : ∀ k ∈ ks, Rep G (Cold fm pl) H k.1 k.2
/-- what an evaluation leaves as it was -/
structure Ext (pl : Pl) (H : Hp) (pl' : Pl) (H' : Hp) : Prop where
  keep : ∀ a o, H a = some o → a ∉ pl.cs → H' a = some o
  dom : ∀ a, H a ≠ none → H' a ≠ none
  hs : pl'.hs = pl.hs
  cs : ∀ a ∈ pl'.cs, a ∈ pl.cs ∨ H a = none
  mu : pl.mu <+: pl'.mu
section
variable {G : Cfg} {fm : Fm} {H H' H1 : Hp} {pl pl' pl1 : Pl} {env : Q.Env} {ks : List (V × D)} {σ : L2.St}
theorem Ext.refl (H : Hp) : Ext pl H pl H := ⟨fun _ _ e _ => e, fun _ e => e, rfl, fun _ m => .inl m, List.prefix_refl _⟩
theorem Ext.free (s : Ext pl H pl' H') {a : Addr} (h : H' a = none) : H a = none := by
  cases q : H a with
  | none => rfl
  | some o => exact absurd h (s.dom a (by rw [q]; exact fun z => nomatch z))
theorem Ext.trans (s : Ext pl H pl1 H1) (t : Ext pl1 H1 pl' H') : Ext pl H pl' H' where
  keep := fun a o e n => t.keep a o (s.keep a o e n) fun m => (s.cs a m).elim n fun z => by rw [z] at e; cases e
  dom := fun a h => t.dom a (s.dom a h)
  hs := t.hs.trans s.hs
  cs := fun a m => (t.cs a m).elim (s.cs a) fun z => .inr (s.free z)
  mu := s.mu.trans t.mu
theorem Ext.cold (s : Ext pl H pl' H') : Sub (Cold fm pl) H (Cold fm pl') H' := ⟨fun a o h e => ⟨⟨h.1, by rw [s.hs]; exact h.2.1, fun m => (s.cs a m).elim h.2.2 fun z => by rw [z] at e; cases e⟩, s.keep a o e h.2.2⟩, s.mu⟩
theorem Ext.tr (s : Ext pl H pl' H') : Sub (TR fm pl) H (TR fm pl') H' := ⟨fun a o h e => ⟨⟨h.1.elim .inl fun h => .inr (by rw [s.hs]; exact h), fun m => (s.cs a m).elim h.2 fun z => by rw [z] at e; cases e⟩, s.keep a o e h.2⟩, s.mu⟩
theorem Ext.new (s : Ext pl H pl' H') : ∀ a o, New fm pl a → H a = some o → New fm pl' a ∧ H' a = some o := fun a o h e => ⟨⟨h.1, by rw [s.hs]; exact h.2.1, fun m => (s.cs a m).elim h.2.2 fun z => by rw [z] at e; cases e⟩, s.keep a o e h.2.2⟩
theorem cold_tr : Sub (Cold fm pl) H (TR fm pl) H := ⟨fun a o h e => ⟨⟨.inl h.1, h.2.2⟩, e⟩, List.prefix_refl _⟩
theorem EnvOk.borC (E : EnvOk G fm pl env ks σ H) {a : Addr} (b : fm.B a) : a ∉ pl.cs := fun m => (E.cn a m).1.elim (fun z => (E.bor a b).2 (E.c0 a z)) (E.bor a b).1
theorem EnvOk.borH (E : EnvOk G fm pl env ks σ H) {a : Addr} (b : fm.B a) : a ∉ pl.hs := fun m => (E.hn a m).1.elim (fun z => (E.bor a b).2 z.1) (E.bor a b).1
theorem EnvOk.newH0 (E : EnvOk G fm pl env ks σ H) {p : Addr} (hp : H p = none) : fm.H0 p = none := by
  cases q : fm.H0 p with
  | none => rfl
  | some o => exact absurd hp (E.dom p (by rw [q]; exact fun z => nomatch z))
theorem EnvOk.newHs (E : EnvOk G fm pl env ks σ H) {p : Addr} (hp : H p = none) : p ∉ pl.hs := fun m => (E.hn p m).2.1 hp
theorem EnvOk.newCs (E : EnvOk G fm pl env ks σ H) {p : Addr} (hp : H p = none) : p ∉ pl.cs := fun m => (E.cn p m).2.1.1 hp
theorem EnvOk.newNew (E : EnvOk G fm pl env ks σ H) {p : Addr} (hp : H p = none) : New fm pl p := ⟨E.newH0 hp, E.newHs hp, E.newCs hp⟩
/-- a tuple is cold to every frame -/
theorem EnvOk.tup (E : EnvOk G fm pl env ks σ H) {a : Addr} (t : TupH H a) : Cold fm pl a := by
  obtain ⟨xs, t⟩ := t
  have nh : a ∉ pl.hs := fun m => (E.hn a m).2.2 xs t
  have nc : a ∉ pl.cs := fun m => (E.cn a m).2.1.2 xs t
  refine ⟨?_, nh, nc⟩
  cases q : fm.H0 a with
  | none => exact .inr (.inl rfl)
  | some o =>
    by_cases hm : a ∈ fm.ms
    · exact (E.msh a hm).elim (fun z => absurd z nh) fun z => .inr (.inr z)
    · have e := E.ex a o hm q
      rw [t] at e
      cases e
      exact .inl (E.tA a xs q)
/-- a place that the heap does not know is cold to the frame -/
theorem EnvOk.newCold (E : EnvOk G fm pl env ks σ H) {p : Addr} (hp : H p = none) : Cold fm pl p := ⟨.inr (.inl (E.newH0 hp)), E.newHs hp, E.newCs hp⟩
theorem EnvOk.newTR (E : EnvOk G fm pl env ks σ H) {p : Addr} (hp : H p = none) : TR fm pl p := ⟨.inl (.inr (.inl (E.newH0 hp))), E.newCs hp⟩
theorem EnvOk.drop (h : EnvOk G fm pl env ks σ H) : EnvOk G fm pl env [] σ H := { h with fr := fun k q => by simp at q }
theorem EnvOk.more {k : V × D} (h : EnvOk G fm pl env ks σ H) (r : Rep G (Cold fm pl) H k.1 k.2) : EnvOk G fm pl env (k :: ks) σ H :=
  { h with fr := fun q m => (List.mem_cons.mp m).elim (fun e => e ▸ r) (h.fr q) }
theorem SlotOk.ext {s : S} {o : Option (Option V)} (E : EnvOk G fm pl env ks σ H) (h : SlotOk G fm pl H s o) (e : Ext pl H pl' H') : SlotOk G fm pl' H' s o := by
  cases s with
  | no => trivial
  | cold d =>
    obtain ⟨v, a, b⟩ := h
    exact ⟨v, a, b.sub e.cold⟩
  | hot d =>
    obtain ⟨p, a, b, n, c⟩ := h
    exact ⟨p, a, by rw [e.hs]; exact b, n, c.sub e.cold fun o q => e.keep _ _ q fun m => (E.cn p m).2.2 b⟩
  | slf k ds =>
    obtain ⟨p, a, b, n, c⟩ := h
    exact ⟨p, a, by rw [e.hs]; exact b, n, c.sub e.cold fun o q => e.keep _ _ q fun m => (E.cn p m).2.2 b⟩
  | bor d =>
    obtain ⟨v, a, b⟩ := h
    exact ⟨v, a, b.sub ⟨fun a o h q => ⟨h, e.keep a o q (E.borC h)⟩, e.mu⟩⟩
  | exn k fs =>
    obtain ⟨a, cls, dd, b, c, r⟩ := h
    exact ⟨a, cls, dd, b, c, r.sub e.cold e.new⟩
/-- the frame behind an evaluation -/
theorem EnvOk.ext {m : Mem} (E : EnvOk G fm pl env ks σ H) (e : Ext pl H pl' H') (hc : ∀ a ∈ pl'.cs, Lv H' a) (hm : MemOk G (Cold fm pl') pl'.cs H' m) : EnvOk G fm pl' (env.wm m) ks σ H' where
  ex := fun a o n q => e.keep a o (E.ex a o n q) fun z => (E.cn a z).1.elim (fun z => n (E.c0 a z)) fun z => by rw [z] at q; cases q
  dom := fun a h => e.dom a (E.dom a h)
  tA := E.tA
  len := E.len
  bor := E.bor
  c0 := E.c0
  mup := E.mup.trans e.mu
  ms0 := E.ms0
  msh := fun a m => by rw [e.hs]; exact E.msh a m
  hn := fun a q => by rw [e.hs] at q; exact ⟨(E.hn a q).1, (E.hn a q).2.keep fun o z => e.keep a o z fun m => (E.cn a m).2.2 q⟩
  cn := fun a q => by
    refine ⟨?_, hc a q, ?_⟩
    · exact (e.cs a q).elim (fun z => (E.cn a z).1) fun z => .inr (E.newH0 z)
    · rw [e.hs]
      exact (e.cs a q).elim (fun z => (E.cn a z).2.2) fun z => E.newHs z
  mem := hm
  slot := fun i s q => SlotOk.ext E (E.slot i s q) e
  inj := E.inj
  fr := fun k q => (E.fr k q).sub e.cold
/-- something new stands in the heap -/
theorem ext_new {p : Addr} {o : HO} (hp : H p = none) : Ext pl H pl (upd H p o) := ⟨fun a u e _ => by rw [upd_ne (ne_of_none e hp)]; exact e, fun a h => by
  by_cases z : a = p
  · rw [z, upd_same]; exact fun q => nomatch q
  · rw [upd_ne z]; exact h, rfl, fun _ m => .inl m, List.prefix_refl _⟩
theorem MemOk.sub {A B : Reg} {cs : List Addr} {m : Mem} (M : MemOk G A cs H m) (s : Sub A H B H') (hl : B.mu = A.mu) (hc : ∀ a ∈ cs, ∀ o, H a = some o → H' a = some o) : MemOk G B cs H' m where
  len := by rw [hl]; exact M.len
  cell := fun n d e => by
    obtain ⟨p, a, b, c⟩ := M.cell n d e
    exact ⟨p, by rw [hl]; exact a, b, c.sub s (hc p b)⟩
  inj := fun n k d e p a b c d' => M.inj n k d e p a b (hl ▸ c) (hl ▸ d')
theorem dom_same (e : Same H H') (a : Addr) (h : H a ≠ none) : H' a ≠ none := by
  cases q : H a with
  | none => exact absurd q h
  | some o => rw [e _ _ q]; exact fun z => nomatch z
theorem ext_same (e : Same H H') : Ext pl H pl H' := ⟨fun a o q _ => e a o q, dom_same e, rfl, fun _ m => .inl m, List.prefix_refl _⟩
/-- only new things, and the memory as it was -/
theorem EnvOk.later (E : EnvOk G fm pl env ks σ H) (e : Same H H') : EnvOk G fm pl env ks σ H' :=
  E.ext (m := env.mem) (ext_same e) (fun a m => (E.cn a m).2.1.keep fun o z => e a o z) (E.mem.sub (ext_same e).cold rfl fun a _ o q => e a o q)
theorem same_new {p : Addr} {o : HO} (h : H p = none) : Same H (upd H p o) := fun b x e => by
  rw [upd_ne (ne_of_none e h)]
  exact e
end
section
variable {G : Cfg} {fm : Fm} {H : Hp} {pl : Pl} {env : Q.Env} {ks : List (V × D)} {σ : L2.St}
theorem but_sub {A : Reg} {p : Addr} : Sub (A.but p) H A H := ⟨fun _ _ h e => ⟨h.1, e⟩, List.prefix_refl _⟩
theorem cold_tm : Sub (Cold fm pl) H (TM fm pl) H := ⟨fun a o h e => ⟨.inl h.1, e⟩, List.prefix_refl _⟩
theorem EnvOk.hsTM (E : EnvOk G fm pl env ks σ H) {p : Addr} (h : p ∈ pl.hs ∨ p ∈ pl.cs) : TM fm pl p := h.elim (fun h => .inr (.inl h)) fun h => .inl ((E.cn p h).1.elim (fun z => .inr (.inr z)) fun z => .inr (.inl z))
end
end QW

set_option Elab.async false
set_option linter.all false
set_option maxRecDepth 100000
set_option maxHeartbeats 4000000
namespace QW
open PySem PySem.Spec PyProof.Rows L2
open Q (D S R RA RB Ctl Cl Pat Mem)
/-! ### what is wanted behind an evaluation -/
def ArgR (fm : Fm) (pl : Pl) (t : Bool) : Reg := if t = true then TR fm pl else Cold fm pl
section
variable {G : Cfg} {fm : Fm} {H H' H1 : Hp} {pl pl' pl1 : Pl} {env : Q.Env} {ks : List (V × D)} {σ : L2.St} {v : V} {d : D} {c : Cl} {m m' : Mem}
/-- a value that flows: no thing of the memory, but by its name -/
def FOk (G : Cfg) (fm : Fm) (pl : Pl) (m : Mem) (H H' : Hp) (v : V) (d : D) : Cl → Prop
  | .cold => Rep G (Cold fm pl) H' v d
  | .fresh => ∃ p, v = .ref p ∧ H p = none ∧ Cold fm pl p ∧ Con G ((Cold fm pl).but p) H' p d ∧ MemOk G ((Cold fm pl).but p) pl.cs H' m
  | .hot => ∃ p, v = .ref p ∧ p ∈ pl.hs ∧ p ∉ pl.cs ∧ Con G (Cold fm pl) H' p d
  | .taint => Rep G (TR fm pl) H' v d
theorem FOk.anyR (h : FOk G fm pl m H H' v d c) : Rep G (TR fm pl) H' v d := by
  cases c with
  | cold => exact Rep.sub h cold_tr
  | taint => exact h
  | fresh =>
    obtain ⟨p, rfl, hp, hc, k, _⟩ := h
    exact (k.sub (but_sub.trans cold_tr) fun o e => e).rep ⟨.inl hc.1, hc.2.2⟩
  | hot =>
    obtain ⟨p, rfl, hp, hn, k⟩ := h
    exact (k.sub cold_tr fun o e => e).rep ⟨.inr (.inl hp), hn⟩
theorem FOk.clean (h : FOk G fm pl m H H' v d c) (hd : Q.dirty c d = false) : Rep G (Cold fm pl) H' v d := by
  cases c with
  | cold => exact h
  | taint =>
    have s : d.scalar = true := by simpa [Q.dirty] using hd
    exact Rep.scalar (h : Rep G _ H' v d) s
  | fresh =>
    obtain ⟨p, rfl, hp, hc, k, _⟩ := h
    exact (k.sub but_sub fun o e => e).rep hc
  | hot => simp [Q.dirty] at hd
theorem FOk.earlier {pl0 : Pl} (h : FOk G fm pl m H H' v d c) (s : Ext pl0 H1 pl1 H) : FOk G fm pl m H1 H' v d c := by
  cases c with
  | cold => exact h
  | taint => exact h
  | fresh => obtain ⟨p, a, b, c⟩ := h; exact ⟨p, a, s.free b, c⟩
  | hot => exact h
/-- how it is held behind a later evaluation: no longer as a fresh one -/
def late : Cl → Cl
  | .fresh => .cold
  | c => c
theorem FOk.ext {Hx : Hp} (h : FOk G fm pl m H H' v d c) (s : Ext pl H' pl1 H1) : FOk G fm pl1 m' Hx H1 v d (late c) := by
  cases c with
  | cold => exact Rep.sub h s.cold
  | taint => exact Rep.sub h s.tr
  | fresh => exact (FOk.clean h rfl).sub s.cold
  | hot =>
    obtain ⟨p, a, b, n, k⟩ := h
    refine ⟨p, a, by rw [s.hs]; exact b, fun q => (s.cs p q).elim n fun z => k.some z, k.sub s.cold fun o e => s.keep p o e n⟩
/-- what a held thing holds -/
def regC (fm : Fm) (pl : Pl) : Cl → Reg
  | .taint => TR fm pl
  | _ => Cold fm pl
/-- a value whose thing is looked at -/
structure DOk (G : Cfg) (fm : Fm) (pl : Pl) (H : Hp) (v : V) (d : D) (c : Cl) : Prop where
  any : Rep G (TM fm pl) H v d
  con : box d = true → ∃ p, v = .ref p ∧ Con G (regC fm pl c) H p d
  tupR : ∀ ds, d = .tup ds → Rep G (regC fm pl c) H v (.tup ds)
  cld : Q.dirty c d = false → Rep G (Cold fm pl) H v d
theorem tr_tm : Sub (TR fm pl) H (TM fm pl) H := ⟨fun a o h e => ⟨h.1, e⟩, List.prefix_refl _⟩
theorem FOk.look (h : FOk G fm pl m H H' v d c) : DOk G fm pl H' v d c where
  any := h.anyR.sub tr_tm
  con := fun hb => by
    cases c with
    | cold => obtain ⟨p, a, b, k⟩ := Rep.con h hb; exact ⟨p, a, k⟩
    | taint => obtain ⟨p, a, b, k⟩ := Rep.con h hb; exact ⟨p, a, k⟩
    | fresh => obtain ⟨p, a, b, e, k, _⟩ := h; exact ⟨p, a, k.sub but_sub fun o e => e⟩
    | hot => obtain ⟨p, a, b, n, k⟩ := h; exact ⟨p, a, k⟩
  tupR := fun ds e => by
    subst e
    cases c with
    | cold => exact h
    | taint => exact h
    | fresh => obtain ⟨p, a, b, e, k, _⟩ := h; exact k.elim
    | hot => obtain ⟨p, a, b, n, k⟩ := h; exact k.elim
  cld := h.clean
theorem DOk.tup (h : DOk G fm pl H v d c) (ds : List D) (e : d = .tup ds) : ∃ p vs, v = .ref p ∧ H p = some (.tup vs) ∧ Reps G (regC fm pl c) H vs ds := by
  have r := h.tupR ds e
  obtain ⟨a, rfl⟩ := r.tup_inv
  obtain ⟨vs, e, _, r⟩ := r.tupSq
  exact ⟨a, vs, rfl, e, r⟩
theorem DOk.lst {ds : List D} (h : DOk G fm pl H v (.lst ds) c) : ∃ a vs, v = .ref a ∧ H a = some (.lst vs) ∧ Reps G (regC fm pl c) H vs ds := by
  obtain ⟨p, rfl, vs, a, b⟩ := h.con rfl
  exact ⟨p, vs, rfl, a, b⟩
theorem DOk.obj {n : Nat} {ds : List D} (h : DOk G fm pl H v (.obj n ds) c) : ∃ a dx vs, v = .ref a ∧ H a = some (.ins (G.cls n) dx ((G.names n).zip vs)) ∧ Reps G (regC fm pl c) H vs ds := by
  obtain ⟨p, rfl, dx, vs, a, b⟩ := h.con rfl
  exact ⟨p, dx, vs, rfl, a, b⟩
theorem reg_tr : ∀ {c : Cl}, Sub (regC fm pl c) H (TR fm pl) H
  | .taint => Sub.rfl'
  | .cold => cold_tr
  | .fresh => cold_tr
  | .hot => cold_tr
theorem reg_mu : ∀ {c : Cl}, (regC fm pl c).mu = pl.mu
  | .taint => rfl
  | .cold => rfl
  | .fresh => rfl
  | .hot => rfl
/-- the thing at a place of the memory -/
theorem cell_look (E : EnvOk G fm pl env ks σ H) {n : Nat} (h : Rep G (TR fm pl) H v (.ptr n)) (q : Q.at_ env.mem n = some d) : ∃ p, v = .ref p ∧ pl.mu[n]? = some p ∧ p ∈ pl.cs ∧ Con G (Cold fm pl) H p d ∧ DOk G fm pl H v d .hot := by
  obtain ⟨p, rfl, hm⟩ := h.ptr_inv
  have e : env.mem[n]? = some (some d) := by
    unfold Q.at_ at q
    cases z : env.mem[n]? with
    | none => rw [z] at q; cases q
    | some o => rw [z] at q; have q : o = some d := q; rw [q]
  obtain ⟨p', a, b, k⟩ := E.mem.cell n d e
  have hp : p' = p := Option.some.inj (a.symm.trans hm)
  subst hp
  exact ⟨p', rfl, a, b, k, ⟨(k.sub cold_tm fun o e => e).rep (E.hsTM (.inr b)), fun _ => ⟨p', rfl, k⟩, fun ds e => by subst e; exact k.elim, fun z => by simp [Q.dirty] at z⟩⟩
end
section
variable (G : Cfg) (W : WX) (fm : Fm) (pl : Pl) (env : Q.Env) (σ : L2.St)
def AccR (H : Hp) (r : R) (P : Pl → D → Cl → Mem → V → Hp → Prop) : Prop := match r with
  | .ok d c m => ∀ pl' v H', EnvOk G fm pl' (env.wm m) [] σ H' → Ext pl H pl' H' → FOk G fm pl' m H H' v d c → P pl' d c m v H'
  | .exc k fs m => ∀ pl' cls dd H', EnvOk G fm pl' (env.wm m) [] σ H' → Ext pl H pl' H' → RepX G (Cold fm pl') (New fm pl') H' cls dd k fs → W cls dd σ H'
  | .bad => False
def AccA (H : Hp) (r : RA) (P : Pl → List D → Bool → Mem → List V → Hp → Prop) : Prop := match r with
  | .ok ds t m => ∀ pl' vs H', EnvOk G fm pl' (env.wm m) [] σ H' → Ext pl H pl' H' → Reps G (ArgR fm pl' t) H' vs ds → P pl' ds t m vs H'
  | .exc k fs m => ∀ pl' cls dd H', EnvOk G fm pl' (env.wm m) [] σ H' → Ext pl H pl' H' → RepX G (Cold fm pl') (New fm pl') H' cls dd k fs → W cls dd σ H'
  | .bad => False
def AccB (H : Hp) (r : RB) (P : Pl → Bool → Mem → Hp → Prop) : Prop := match r with
  | .ok b m => ∀ pl' H', EnvOk G fm pl' (env.wm m) [] σ H' → Ext pl H pl' H' → P pl' b m H'
  | .exc k fs m => ∀ pl' cls dd H', EnvOk G fm pl' (env.wm m) [] σ H' → Ext pl H pl' H' → RepX G (Cold fm pl') (New fm pl') H' cls dd k fs → W cls dd σ H'
  | .bad => False
end
/-- the canonical readings -/
def tE (G : Cfg) (W : WX) (ev : Q.X) : TE := fun σ H P => ∃ fm pl env, EnvOk G fm pl env [] σ H ∧ AccR G W fm pl env σ H (ev env) fun _ _ _ _ v H' => P v H'
def tA (G : Cfg) (W : WX) (ev : Q.XA) : TA := fun σ H P => ∃ fm pl env, EnvOk G fm pl env [] σ H ∧ AccA G W fm pl env σ H (ev env) fun _ _ _ _ vs H' => P vs H'
def tT (G : Cfg) (W : WX) (ev : Q.XB) : TT := fun σ H P => ∃ fm pl env, EnvOk G fm pl env [] σ H ∧ AccB G W fm pl env σ H (ev env) fun _ b _ H' => P b H'
section
variable {G : Cfg} {W : WX} {fm : Fm} {pl pl1 : Pl} {H H1 : Hp} {env : Q.Env} {σ : L2.St}
theorem AccR.imp {r : R} {P P' : Pl → D → Cl → Mem → V → Hp → Prop} (h : AccR G W fm pl env σ H r P) (m : ∀ pl' d c m v H', EnvOk G fm pl' (env.wm m) [] σ H' → Ext pl H pl' H' → FOk G fm pl' m H H' v d c → P pl' d c m v H' → P' pl' d c m v H') : AccR G W fm pl env σ H r P' := by
  cases r with
  | ok d c μ => exact fun pl' v H' E s q => m pl' d c μ v H' E s q (h pl' v H' E s q)
  | exc k fs μ => exact h
  | bad => exact h
theorem AccR.later {r : R} {P : Pl → D → Cl → Mem → V → Hp → Prop} {m : Mem} (h : AccR G W fm pl env σ H r P) (s : Ext pl H pl1 H1) : AccR G W fm pl1 (env.wm m) σ H1 r P := by
  cases r with
  | ok d c μ => exact fun pl' v H' E s' q => h pl' v H' E (s.trans s') (q.earlier s)
  | exc k fs μ => exact fun pl' cls dd H' E s' q => h pl' cls dd H' E (s.trans s') q
  | bad => exact h
theorem AccA.imp {r : RA} {P P' : Pl → List D → Bool → Mem → List V → Hp → Prop} (h : AccA G W fm pl env σ H r P) (m : ∀ pl' ds t m vs H', EnvOk G fm pl' (env.wm m) [] σ H' → Ext pl H pl' H' → Reps G (ArgR fm pl' t) H' vs ds → P pl' ds t m vs H' → P' pl' ds t m vs H') : AccA G W fm pl env σ H r P' := by
  cases r with
  | ok d c μ => exact fun pl' v H' E s q => m pl' d c μ v H' E s q (h pl' v H' E s q)
  | exc k fs μ => exact h
  | bad => exact h
theorem AccA.later {r : RA} {P : Pl → List D → Bool → Mem → List V → Hp → Prop} {m : Mem} (h : AccA G W fm pl env σ H r P) (s : Ext pl H pl1 H1) : AccA G W fm pl1 (env.wm m) σ H1 r P := by
  cases r with
  | ok d c μ => exact fun pl' v H' E s' q => h pl' v H' E (s.trans s') q
  | exc k fs μ => exact fun pl' cls dd H' E s' q => h pl' cls dd H' E (s.trans s') q
  | bad => exact h
theorem AccB.imp {r : RB} {P P' : Pl → Bool → Mem → Hp → Prop} (h : AccB G W fm pl env σ H r P) (m : ∀ pl' b m H', EnvOk G fm pl' (env.wm m) [] σ H' → Ext pl H pl' H' → P pl' b m H' → P' pl' b m H') : AccB G W fm pl env σ H r P' := by
  cases r with
  | ok d μ => exact fun pl' H' E s => m pl' d μ H' E s (h pl' H' E s)
  | exc k fs μ => exact h
  | bad => exact h
theorem AccB.later {r : RB} {P : Pl → Bool → Mem → Hp → Prop} {m : Mem} (h : AccB G W fm pl env σ H r P) (s : Ext pl H pl1 H1) : AccB G W fm pl1 (env.wm m) σ H1 r P := by
  cases r with
  | ok d μ => exact fun pl' H' E s' => h pl' H' E (s.trans s')
  | exc k fs μ => exact fun pl' cls dd H' E s' q => h pl' cls dd H' E (s.trans s') q
  | bad => exact h
theorem acc_bind {r : R} {f : D → Cl → Mem → R} {P : Pl → D → Cl → Mem → V → Hp → Prop} (h : AccR G W fm pl env σ H (r.bind f) P) :
    AccR G W fm pl env σ H r fun pl' d c m _ H' => AccR G W fm pl' (env.wm m) σ H' (f d c m) P := by
  cases r with
  | ok d c m => exact fun pl' v H' E s q => AccR.later h s
  | exc k fs m => exact h
  | bad => exact h
theorem acc_bindA {r : R} {f : D → Cl → Mem → RA} {P : Pl → List D → Bool → Mem → List V → Hp → Prop} (h : AccA G W fm pl env σ H (r.bindA f) P) :
    AccR G W fm pl env σ H r fun pl' d c m _ H' => AccA G W fm pl' (env.wm m) σ H' (f d c m) P := by
  cases r with
  | ok d c m => exact fun pl' v H' E s q => AccA.later h s
  | exc k fs m => exact h
  | bad => exact h
theorem acc_bindB {r : R} {f : D → Cl → Mem → RB} {P : Pl → Bool → Mem → Hp → Prop} (h : AccB G W fm pl env σ H (r.bindB f) P) :
    AccR G W fm pl env σ H r fun pl' d c m _ H' => AccB G W fm pl' (env.wm m) σ H' (f d c m) P := by
  cases r with
  | ok d c m => exact fun pl' v H' E s q => AccB.later h s
  | exc k fs m => exact h
  | bad => exact h
theorem accA_bind {r : RA} {f : List D → Bool → Mem → R} {P : Pl → D → Cl → Mem → V → Hp → Prop} (h : AccR G W fm pl env σ H (r.bind f) P) :
    AccA G W fm pl env σ H r fun pl' ds t m _ H' => AccR G W fm pl' (env.wm m) σ H' (f ds t m) P := by
  cases r with
  | ok d c m => exact fun pl' v H' E s q => AccR.later h s
  | exc k fs m => exact h
  | bad => exact h
theorem accA_bindA {r : RA} {f : List D → Bool → Mem → RA} {P : Pl → List D → Bool → Mem → List V → Hp → Prop} (h : AccA G W fm pl env σ H (r.bindA f) P) :
    AccA G W fm pl env σ H r fun pl' ds t m _ H' => AccA G W fm pl' (env.wm m) σ H' (f ds t m) P := by
  cases r with
  | ok d c m => exact fun pl' v H' E s q => AccA.later h s
  | exc k fs m => exact h
  | bad => exact h
theorem accB_bind {r : RB} {f : Bool → Mem → R} {P : Pl → D → Cl → Mem → V → Hp → Prop} (h : AccR G W fm pl env σ H (r.bind f) P) :
    AccB G W fm pl env σ H r fun pl' d m H' => AccR G W fm pl' (env.wm m) σ H' (f d m) P := by
  cases r with
  | ok d m => exact fun pl' H' E s => AccR.later h s
  | exc k fs m => exact h
  | bad => exact h
theorem accB_bindB {r : RB} {f : Bool → Mem → RB} {P : Pl → Bool → Mem → Hp → Prop} (h : AccB G W fm pl env σ H (r.bindB f) P) :
    AccB G W fm pl env σ H r fun pl' d m H' => AccB G W fm pl' (env.wm m) σ H' (f d m) P := by
  cases r with
  | ok d m => exact fun pl' H' E s => AccB.later h s
  | exc k fs m => exact h
  | bad => exact h
/-- a value that was held so, later -/
def Lk (G : Cfg) (fm : Fm) (pl : Pl) (H : Hp) (v : V) (d : D) (c : Cl) : Prop := DOk G fm pl H v d c ∧ Rep G (TR fm pl) H v d
theorem FOk.at {H' : Hp} {v : V} {d : D} {c : Cl} {m : Mem} (o : FOk G fm pl m H H' v d c) (s : Ext pl H' pl1 H1) : Lk G fm pl1 H1 v d c := by
  refine ⟨?_, o.anyR.sub s.tr⟩
  have l := (o.ext (Hx := H) (m' := m) s).look
  cases c with
  | fresh => exact ⟨l.any, l.con, l.tupR, l.cld⟩
  | cold => exact l
  | hot => exact l
  | taint => exact l
/-- the thing itself, where only its place is told -/
theorem acc_rd {m : Mem} {v : V} {d : D} {c : Cl} {k : D → Cl → R} {P : Pl → D → Cl → Mem → V → Hp → Prop} {ks : List (V × D)} (E : EnvOk G fm pl (env.wm m) ks σ H) (o : Lk G fm pl H v d c) (acc : AccR G W fm pl (env.wm m) σ H (Q.rd m d c k) P) :
    ∃ x c', DOk G fm pl H v x c' ∧ AccR G W fm pl (env.wm m) σ H (k x c') P := by
  cases d with
  | ptr n =>
    have e : Q.rd m (.ptr n) c k = Q.rdS .bad k (Q.at_ m n) := rfl
    rw [e] at acc
    cases q : Q.at_ m n with
    | none => rw [q] at acc; exact acc.elim
    | some x =>
      rw [q] at acc
      obtain ⟨p, _, _, _, _, k⟩ := cell_look E o.2 (show Q.at_ (env.wm m).mem n = some x from q)
      exact ⟨x, .hot, k, acc⟩
  | _ => exact ⟨_, c, o.1, acc⟩
/-- into a canonical reading; what is known behind it -/
theorem tE_in {ev : Q.X} {P : Pl → D → Cl → Mem → V → Hp → Prop} {P' : VK} (E : EnvOk G fm pl env [] σ H) (h : AccR G W fm pl env σ H (ev env) P)
    (m : ∀ pl' d c m v H', EnvOk G fm pl' (env.wm m) [] σ H' → Ext pl H pl' H' → FOk G fm pl' m H H' v d c → P pl' d c m v H' → P' v H') : tE G W ev σ H P' :=
  ⟨fm, pl, env, E, h.imp m⟩
theorem tA_in {ev : Q.XA} {P : Pl → List D → Bool → Mem → List V → Hp → Prop} {P' : List V → Hp → Prop} (E : EnvOk G fm pl env [] σ H) (h : AccA G W fm pl env σ H (ev env) P)
    (m : ∀ pl' ds t m vs H', EnvOk G fm pl' (env.wm m) [] σ H' → Ext pl H pl' H' → Reps G (ArgR fm pl' t) H' vs ds → P pl' ds t m vs H' → P' vs H') : tA G W ev σ H P' :=
  ⟨fm, pl, env, E, h.imp m⟩
theorem tT_in {ev : Q.XB} {P : Pl → Bool → Mem → Hp → Prop} {P' : Bool → Hp → Prop} (E : EnvOk G fm pl env [] σ H) (h : AccB G W fm pl env σ H (ev env) P)
    (m : ∀ pl' b m H', EnvOk G fm pl' (env.wm m) [] σ H' → Ext pl H pl' H' → P pl' b m H' → P' b H') : tT G W ev σ H P' :=
  ⟨fm, pl, env, E, h.imp m⟩
end
theorem _root_.L2.PE.conv {X : Cx} {e : Expr} {t u : TE} (h : PE X e t) (m : ∀ σ H P, u σ H P → t σ H P) : PE X e u := ⟨fun pins s σ H P I q => h.run pins s σ H P I (m σ H P q)⟩
theorem _root_.L2.PT.conv {X : Cx} {e : Expr} {t u : TT} (h : PT X e t) (m : ∀ σ H P, u σ H P → t σ H P) : PT X e u := ⟨fun pins s σ H P I q => h.run pins s σ H P I (m σ H P q)⟩
theorem _root_.L2.PW.conv {X : Cx} {e : Expr} {t u : TT} (h : PW X e t) (m : ∀ σ H P, u σ H P → t σ H P) : PW X e u := ⟨fun whole pins s σ H P I q => h.run whole pins s σ H P I (m σ H P q)⟩
theorem _root_.L2.PA.conv {X : Cx} {e : List Expr} {t u : TA} (h : PA X e t) (m : ∀ σ H P, u σ H P → t σ H P) : PA X e u := ⟨fun pos pins s σ H P I q => h.run pos pins s σ H P I (m σ H P q)⟩
theorem _root_.L2.PS.conv {X : Cx} {e : Stmt} {t u : TS} (h : PS X e t) (m : ∀ D σ H, u D σ H → t D σ H) : PS X e u := ⟨fun pins s σ H D I q => h.run pins s σ H D I (m D σ H q)⟩
theorem _root_.L2.PSs.conv {X : Cx} {e : List Stmt} {t u : TS} (h : PSs X e t) (m : ∀ D σ H, u D σ H → t D σ H) : PSs X e u := ⟨fun pins s σ H D I q => h.run pins s σ H D I (m D σ H q)⟩
theorem _root_.L2.PG.conv {X : Cx} {e : Expr} {t u : TG} (h : PG X e t) (m : ∀ v σ H P, u v σ H P → t v σ H P) : PG X e u := ⟨fun pins s σ H v w P I r q => h.run pins s σ H v w P I r (m v σ H P q)⟩
theorem _root_.L2.PI.conv {X : Cx} {tg e : Expr} {t u : TI} (h : PI X tg e t) (m : ∀ σ H R, u σ H R → t σ H R) : PI X tg e u := ⟨fun pins s σ H R I q => h.run pins s σ H R I (m σ H R q)⟩

/-! ### expressions -/
section
variable {X : Cx} {W : WX} {G : Cfg}
theorem q_var (i : Nat) {x : Str} {pos : Pos} (hN : X.N[i]? = some x := by rfl) (hv : Vis X.env.scope x := by first | exact Or.inl rfl | exact Or.inr (Or.inl rfl) | exact Or.inr (Or.inr rfl))
    (hd : (x == ("__debug__" : Str)) = false := by decide) (hcd : (x == ("__classdict__" : Str)) = false := by decide) : PE X (.Name x pos) (tE G W (Q.var i)) :=
  (pv i hN hv hd hcd).conv fun σ H P ⟨fm, pl, env, E, acc⟩ => by
    show ∃ v, σ[i]? = some (some v) ∧ P v H
    have e : Q.var i env = Q.varS env.mem (env.sl[i]?) := rfl
    rw [e] at acc
    cases q : env.sl[i]? with
    | none => rw [q] at acc; exact acc.elim
    | some s =>
      have sl := E.slot i s q
      rw [q] at acc
      cases s with
      | no => exact acc.elim
      | cold d =>
        obtain ⟨v, a, b⟩ := sl
        exact ⟨v, a, acc pl v H E (Ext.refl _) b⟩
      | hot d =>
        obtain ⟨p, a, b, n, k⟩ := sl
        exact ⟨_, a, acc pl _ H E (Ext.refl _) ⟨p, rfl, b, fun m => (E.cn p m).2.2 b, k⟩⟩
      | slf c ds =>
        obtain ⟨p, a, b, n, k⟩ := sl
        exact ⟨_, a, acc pl _ H E (Ext.refl _) ⟨p, rfl, b, fun m => (E.cn p m).2.2 b, k⟩⟩
      | bor d =>
        obtain ⟨v, a, b⟩ := sl
        exact ⟨v, a, acc pl v H E (Ext.refl _) (Rep.sub b ⟨fun a o h e => ⟨⟨.inr (.inr h), E.borC h⟩, e⟩, List.prefix_refl _⟩)⟩
      | exn k fs => exact acc.elim
theorem q_int {i : Int} {j pos} : PE X (.Constant (.int i) j pos) (tE G W (Q.con (.int i))) := pe_int.conv fun σ H P ⟨_, _, _, E, acc⟩ => acc _ _ H E (Ext.refl _) (.int i)
theorem q_bl {i : Bool} {j pos} : PE X (.Constant (.bool i) j pos) (tE G W (Q.con (.bl i))) := pe_bl.conv fun σ H P ⟨_, _, _, E, acc⟩ => acc _ _ H E (Ext.refl _) (.bl i)
theorem q_non {j pos} : PE X (.Constant .none j pos) (tE G W (Q.con .non)) := pe_non.conv fun σ H P ⟨_, _, _, E, acc⟩ => acc _ _ H E (Ext.refl _) .non
theorem q_str {i : Str} {j pos} : PE X (.Constant (.str i) j pos) (tE G W (Q.con (.str i))) := pe_str.conv fun σ H P ⟨_, _, _, E, acc⟩ => acc _ _ H E (Ext.refl _) (.str i)
/-- a scalar of the module's -/
def conV : D → Option V
  | .non => some .non
  | .bl b => some (.bl b)
  | .int i => some (.int i)
  | .str s => some (.str s)
  | _ => none
theorem conV_rep {d : D} {v : V} (h : conV d = some v) {A : Reg} {H : Hp} : Rep G A H v d := by
  cases d <;> simp [conV] at h <;> subst h <;> constructor
theorem q_glob {x : Str} {d : D} {v : V} {u : Value} {pos : Pos} (hv : conV d = some v) (hm : X.mg x = some u) (r : RelV v u) (hg : Gl X x := by rfl) (hd : (x == ("__debug__" : Str)) = false := by decide) : PE X (.Name x pos) (tE G W (Q.con d)) :=
  (pe_glob hg hm r hd).conv fun σ H P ⟨_, _, _, E, acc⟩ => acc _ _ H E (Ext.refl _) (conV_rep hv)
/-- an operation of the machine's on values is one on data, its answer a scalar -/
def OpD (G : Cfg) (r : R2) (f : D → D → Option D) : Prop :=
  ∀ x y z, f x y = some z → z.scalar = true ∧ ∀ (A : Reg) (H : Hp) vx vy, Rep G A H vx x → Rep G A H vy y → ∃ vz, Rep G A H vz z ∧ ∀ P : VK, P vz H → r vx vy H P
def UnD (G : Cfg) (r : V → Hp → VK → Prop) (f : D → Option D) : Prop :=
  ∀ x z, f x = some z → z.scalar = true ∧ ∀ (A : Reg) (H : Hp) vx, Rep G A H vx x → ∃ vz, Rep G A H vz z ∧ ∀ P : VK, P vz H → r vx H P
variable {a b c : Expr} {ea eb ec : Q.X} {pos : Pos}
theorem ofO_some {o : Option D} {fm : Fm} {pl : Pl} {env : Q.Env} {σ : L2.St} {H : Hp} {m : Mem} {P : Pl → D → Cl → Mem → V → Hp → Prop} (h : AccR G W fm pl env σ H (Q.ofO m o) P) : ∃ z, o = some z ∧ AccR G W fm pl env σ H (.ok z .cold m) P := by
  cases o with
  | none => exact h.elim
  | some z => exact ⟨z, rfl, h⟩
theorem op2_of {r : R2} {f : D → D → Option D} (hf : OpD G r f) {σ : L2.St} {H : Hp} {P : VK} (h : tE G W (Q.op2 f ea eb) σ H P) : tOp r (tE G W ea) (tE G W eb) σ H P := by
  obtain ⟨fm, pl, env, E, acc⟩ := h
  refine tE_in E (acc_bind acc) fun pl1 d c m1 v H1 E1 s1 o1 acc1 => tE_in E1 (acc_bind acc1) fun pl2 d2 c2 m2 v2 H2 E2 s2 o2 acc2 => ?_
  obtain ⟨x, c', l1, acc3⟩ := acc_rd E2 (o1.at s2) acc2
  obtain ⟨y, c'', l2, acc4⟩ := acc_rd E2 (o2.at (Ext.refl _)) acc3
  obtain ⟨z, q, acc5⟩ := ofO_some acc4
  obtain ⟨sz, k⟩ := hf x y z q
  obtain ⟨vz, rz, k⟩ := k _ H2 v v2 l1.any l2.any
  exact k _ (acc5 _ vz H2 E2 (Ext.refl _) (rz.scalar sz))
theorem q_bin {op : Operator} {r : R2} {f : D → D → Option D} (ho : OpR X (binaryOp op) r) (hf : OpD G r f) (ha : PE X a (tE G W ea)) (hb : PE X b (tE G W eb)) : PE X (.BinOp a op b pos) (tE G W (Q.op2 f ea eb)) :=
  (pe_op ho ha hb).conv fun _ _ _ h => op2_of hf h
theorem q_cmp {op : CmpOp} {r : R2} {f : D → D → Option D} (ho : OpR X (compareOp op) r) (hf : OpD G r f) (ha : PE X a (tE G W ea)) (hb : PE X b (tE G W eb)) (hm : behindInMarks op b = false := by first | exact nomark _ | rfl) :
    PE X (.Compare a [op] [b] pos) (tE G W (Q.op2 f ea eb)) := (pe_cmpR ho ha hb hm).conv fun _ _ _ h => op2_of hf h
theorem q_un {op : UnaryOp} {r : V → Hp → VK → Prop} {f : D → Option D} (ho : UnR X (unaryOp op) r) (hf : UnD G r f) (ha : PE X a (tE G W ea)) : PE X (.UnaryOp op a pos) (tE G W (Q.op1 f ea)) :=
  (pe_un ho ha).conv fun σ H P ⟨fm, pl, env, E, acc⟩ => tE_in E (acc_bind acc) fun pl1 d c m1 v H1 E1 s1 o1 acc1 => by
    obtain ⟨x, c', l1, acc2⟩ := acc_rd E1 (o1.at (Ext.refl _)) acc1
    obtain ⟨z, q, acc3⟩ := ofO_some acc2
    obtain ⟨sz, k⟩ := hf x z q
    obtain ⟨vz, rz, k⟩ := k _ H1 v l1.any
    exact k _ (acc3 _ vz H1 E1 (Ext.refl _) (rz.scalar sz))
/-- x is None, is not None -/
theorem isN_of {σ : L2.St} {H : Hp} {P : VK} (h : tE G W (Q.op1n Q.opIsN ea) σ H P) : tIsN (tE G W ea) σ H P := by
  obtain ⟨fm, pl, env, E, acc⟩ := h
  refine tE_in E (acc_bind acc) fun pl1 d c m1 v H1 E1 s1 o1 acc1 => ?_
  have r := o1.anyR
  obtain ⟨z, q, acc3⟩ := ofO_some acc1
  cases r <;> cases q <;> exact acc3 _ _ H1 E1 (Ext.refl _) (Rep.bl _)
theorem q_isN {j pos'} (ha : PE X a (tE G W ea)) : PE X (.Compare a [.Is] [.Constant .none j pos'] pos) (tE G W (Q.op1n Q.opIsN ea)) := (pe_cmp (pc_isN ha)).conv fun _ _ _ h => isN_of h
theorem notN_of {σ : L2.St} {H : Hp} {P : VK} (h : tE G W (Q.op1n Q.opNotN ea) σ H P) : tNotN (tE G W ea) σ H P := by
  obtain ⟨fm, pl, env, E, acc⟩ := h
  refine tE_in E (acc_bind acc) fun pl1 d c m1 v H1 E1 s1 o1 acc1 => ?_
  have r := o1.anyR
  obtain ⟨z, q, acc3⟩ := ofO_some acc1
  cases r <;> cases q <;> exact acc3 _ _ H1 E1 (Ext.refl _) (Rep.bl _)
theorem q_notN {j pos'} (ha : PE X a (tE G W ea)) : PE X (.Compare a [.IsNot] [.Constant .none j pos'] pos) (tE G W (Q.op1n Q.opNotN ea)) := (pe_cmp (pc_notN ha)).conv fun _ _ _ h => notN_of h
theorem chain_of {r r' : R2} {f g : D → D → Option D} (hf : OpD G r f) (hg : OpD G r' g) {σ : L2.St} {H : Hp} {P : VK} (h : tE G W (Q.chain f g ea eb ec) σ H P) : tChain r r' (tE G W ea) (tE G W eb) (tE G W ec) σ H P := by
    obtain ⟨fm, pl, env, E, acc⟩ := h
    refine tE_in E (acc_bind acc) fun pl1 d c m1 v H1 E1 s1 o1 acc1 => tE_in E1 (acc_bind acc1) fun pl2 d2 c2 m2 v2 H2 E2 s2 o2 acc2 => ?_
    cases q : f d d2 with
    | none => rw [q] at acc2; exact acc2.elim
    | some z =>
      rw [q] at acc2
      obtain ⟨sz, k⟩ := hf d d2 z q
      obtain ⟨vz, rz, k⟩ := k _ H2 v v2 ((o1.anyR).sub s2.tr) o2.anyR
      cases z with
      | bl t =>
        cases rz
        refine k _ ⟨t, rfl, ?_⟩
        cases t with
        | false => exact acc2 _ _ H2 E2 (Ext.refl _) (Rep.bl _)
        | true =>
          refine tE_in E2 (acc_bind acc2) fun pl3 d3 c3 m3 v3 H3 E3 s3 o3 acc3 => ?_
          obtain ⟨z, q, acc4⟩ := ofO_some acc3
          obtain ⟨sz, k⟩ := hg d2 d3 z q
          obtain ⟨vz, rz, k⟩ := k _ H3 v2 v3 ((o2.anyR).sub s3.tr) o3.anyR
          exact k _ (acc4 _ vz H3 E3 (Ext.refl _) (rz.scalar sz))
      | _ => exact acc2.elim
theorem q_chain {op op' : CmpOp} {r r' : R2} {f g : D → D → Option D} (ho : OpR X (compareOp op) r) (hf : OpD G r f) (ho' : OpR X (compareOp op') r') (hg : OpD G r' g) (ha : PE X a (tE G W ea)) (hb : PE X b (tE G W eb)) (hc : PE X c (tE G W ec))
    (hm : lastMarks [op, op'] [b, c] = false := by with_unfolding_all rfl) : PE X (.Compare a [op, op'] [b, c] pos) (tE G W (Q.chain f g ea eb ec)) :=
  (pe_chain ho ho' ha hb hc hm).conv fun _ _ _ h => chain_of hf hg h
/-! ### tests -/
variable {ta tb tc : Q.XB}
theorem tst_tE {σ : L2.St} {H : Hp} {P : Bool → Hp → Prop} (h : tT G W (Q.tst ea) σ H P) : tE G W ea σ H fun x H' => ∃ k, x = .bl k ∧ P k H' := by
  obtain ⟨fm, pl, env, E, acc⟩ := h
  refine tE_in E (acc_bindB acc) fun pl1 d c m1 v H1 E1 s1 o1 acc1 => ?_
  cases d with
  | bl b =>
    cases (o1.anyR)
    exact ⟨b, rfl, acc1 _ H1 E1 (Ext.refl _)⟩
  | _ => exact acc1.elim
theorem q_tst (h : PE X a (tE G W ea)) (he : ∀ whole, isTrue a X.env whole = (do let v ← whole; standAt a.pos; holding [v] (truthy v)) := by intro _; rfl) : PT X a (tT G W (Q.tst ea)) :=
  PT.conv (pt_val h he) fun σ H P h => tst_tE h
theorem q_tcmp {op : CmpOp} {r : R2} {f : D → D → Option D} (ho : OpR X (compareOp op) r) (hf : OpD G r f) (ha : PE X a (tE G W ea)) (hb : PE X b (tE G W eb)) (hm : behindInMarks op b = false := by first | exact nomark _ | rfl) :
    PT X (.Compare a [op] [b] pos) (tT G W (Q.tst (Q.op2 f ea eb))) := PT.conv (pt_cmpR ho ha hb hm) fun _ _ _ h => op2_of hf (tst_tE h)
theorem q_tchain {op op' : CmpOp} {r r' : R2} {f g : D → D → Option D} (ho : OpR X (compareOp op) r) (hf : OpD G r f) (ho' : OpR X (compareOp op') r') (hg : OpD G r' g) (ha : PE X a (tE G W ea)) (hb : PE X b (tE G W eb)) (hc : PE X c (tE G W ec))
    (hm : lastMarks [op, op'] [b, c] = false := by with_unfolding_all rfl) : PT X (.Compare a [op, op'] [b, c] pos) (tT G W (Q.tst (Q.chain f g ea eb ec))) :=
  PT.conv (pt_chain ho ho' ha hb hc hm) fun _ _ _ h => chain_of hf hg (tst_tE h)
theorem q_tisN {j pos'} (ha : PE X a (tE G W ea)) : PT X (.Compare a [.Is] [.Constant .none j pos'] pos) (tT G W (Q.tst (Q.op1n Q.opIsN ea))) := PT.conv (pt_cmp (pc_isN ha)) fun _ _ _ h => isN_of (tst_tE h)
theorem q_tnotN {j pos'} (ha : PE X a (tE G W ea)) : PT X (.Compare a [.IsNot] [.Constant .none j pos'] pos) (tT G W (Q.tst (Q.op1n Q.opNotN ea))) := PT.conv (pt_cmp (pc_notN ha)) fun _ _ _ h => notN_of (tst_tE h)
theorem q_tnot (h : PT X a (tT G W ta)) : PT X (.UnaryOp .Not a pos) (tT G W (Q.tnot ta)) :=
  PT.conv (pt_not h) fun σ H P ⟨fm, pl, env, E, acc⟩ => tT_in E (accB_bindB acc) fun pl1 k m1 H1 E1 s1 acc1 => acc1 _ H1 E1 (Ext.refl _)
theorem q_tand1 (h : PT X a (tT G W ta)) : PW X (.BoolOp .And [a] pos) (tT G W ta) := pw_and1 h
theorem q_tor1 (h : PT X a (tT G W ta)) : PW X (.BoolOp .Or [a] pos) (tT G W ta) := pw_or1 h
variable {rest : List Expr}
theorem q_tand (h : PT X a (tT G W ta)) (hb : PW X (.BoolOp .And (b :: rest) pos) (tT G W tb)) : PW X (.BoolOp .And (a :: b :: rest) pos) (tT G W (Q.tand ta tb)) :=
  PW.conv (pw_and h hb) fun σ H P ⟨fm, pl, env, E, acc⟩ => tT_in E (accB_bindB acc) fun pl1 k m1 H1 E1 s1 acc1 => by
    cases k with
    | false => exact acc1 _ H1 E1 (Ext.refl _)
    | true => exact ⟨fm, pl1, _, E1, acc1⟩
theorem q_tor (h : PT X a (tT G W ta)) (hb : PW X (.BoolOp .Or (b :: rest) pos) (tT G W tb)) : PW X (.BoolOp .Or (a :: b :: rest) pos) (tT G W (Q.tor ta tb)) :=
  PW.conv (pw_or h hb) fun σ H P ⟨fm, pl, env, E, acc⟩ => tT_in E (accB_bindB acc) fun pl1 k m1 H1 E1 s1 acc1 => by
    cases k with
    | true => exact acc1 _ H1 E1 (Ext.refl _)
    | false => exact ⟨fm, pl1, _, E1, acc1⟩
theorem q_and1 {op : BoolOp} (h : PE X a (tE G W ea)) : PE X (.BoolOp op [a] pos) (tE G W ea) := pe_one h
theorem q_and (h : PE X a (tE G W ea)) (hb : PE X (.BoolOp .And (b :: rest) pos) (tE G W eb)) : PE X (.BoolOp .And (a :: b :: rest) pos) (tE G W (Q.vand ea eb)) :=
  PE.conv (pe_and h hb) fun σ H P ⟨fm, pl, env, E, acc⟩ => tE_in E (acc_bind acc) fun pl1 d c m1 v H1 E1 s1 o1 acc1 => by
    cases d with
    | bl k =>
      cases (o1.anyR)
      refine ⟨k, rfl, ?_⟩
      cases k with
      | false => exact acc1 _ _ H1 E1 (Ext.refl _) (Rep.bl _)
      | true => exact ⟨fm, pl1, _, E1, acc1⟩
    | _ => exact acc1.elim
theorem q_or (h : PE X a (tE G W ea)) (hb : PE X (.BoolOp .Or (b :: rest) pos) (tE G W eb)) : PE X (.BoolOp .Or (a :: b :: rest) pos) (tE G W (Q.vor ea eb)) :=
  PE.conv (pe_or h hb) fun σ H P ⟨fm, pl, env, E, acc⟩ => tE_in E (acc_bind acc) fun pl1 d c m1 v H1 E1 s1 o1 acc1 => by
    cases d with
    | bl k =>
      cases (o1.anyR)
      refine ⟨k, rfl, ?_⟩
      cases k with
      | true => exact acc1 _ _ H1 E1 (Ext.refl _) (Rep.bl _)
      | false => exact ⟨fm, pl1, _, E1, acc1⟩
    | _ => exact acc1.elim
theorem q_not (h : PE X a (tE G W ea)) : PE X (.UnaryOp .Not a pos) (tE G W (Q.vnot ea)) :=
  PE.conv (pe_not h) fun σ H P ⟨fm, pl, env, E, acc⟩ => tE_in E (acc_bind acc) fun pl1 d c m1 v H1 E1 s1 o1 acc1 => by
    cases d with
    | bl k =>
      cases (o1.anyR)
      exact ⟨k, rfl, acc1 _ _ H1 E1 (Ext.refl _) (Rep.bl _)⟩
    | _ => exact acc1.elim
theorem q_cond (ht : PT X c (tT G W tc)) (ha : PE X a (tE G W ea)) (hb : PE X b (tE G W eb)) : PE X (.IfExp c a b pos) (tE G W (Q.cond tc ea eb)) :=
  PE.conv (pe_ifExp ht ha hb) fun σ H P ⟨fm, pl, env, E, acc⟩ => tT_in E (accB_bind acc) fun pl1 k m1 H1 E1 s1 acc1 => by
    cases k with
    | true => exact ⟨fm, pl1, _, E1, acc1⟩
    | false => exact ⟨fm, pl1, _, E1, acc1⟩
/-! ### argument lists, displays -/
variable {es : List Expr} {eas : Q.XA}
theorem arg_cold {fm : Fm} {pl : Pl} {t : Bool} {H : Hp} : Sub (Cold fm pl) H (ArgR fm pl t) H := by
  cases t with
  | false => exact Sub.rfl'
  | true => exact cold_tr
theorem arg_tr {fm : Fm} {pl : Pl} {t : Bool} {H : Hp} : Sub (ArgR fm pl t) H (TR fm pl) H := by
  cases t with
  | false => exact cold_tr
  | true => exact Sub.rfl'
theorem arg_or {fm : Fm} {pl : Pl} {t u : Bool} {H : Hp} : Sub (ArgR fm pl t) H (ArgR fm pl (u || t)) H := by
  cases t with
  | false => exact arg_cold
  | true => rw [Bool.or_true]; exact Sub.rfl'
theorem Ext.arg {fm : Fm} {pl pl' : Pl} {t : Bool} {H H' : Hp} (s : Ext pl H pl' H') : Sub (ArgR fm pl t) H (ArgR fm pl' t) H' := by
  cases t with
  | false => exact s.cold
  | true => exact s.tr
theorem FOk.arg {fm : Fm} {pl : Pl} {H H' : Hp} {v : V} {d : D} {c : Cl} {m : Mem} (o : FOk G fm pl m H H' v d c) : Rep G (ArgR fm pl (Q.dirty c d)) H' v d := by
  cases hd : Q.dirty c d with
  | false => exact o.clean hd
  | true => exact o.anyR
theorem q_anil : PA X [] (tA G W Q.anil) := PA.conv pa_nil fun σ H P ⟨fm, pl, env, E, acc⟩ => acc _ [] H E (Ext.refl _) Reps.nil
theorem q_acons (ha : PE X a (tE G W ea)) (hr : PA X es (tA G W eas)) (hst : starEach (a :: es) X.env = (false, eval a X.env) :: starEach es X.env := by rfl) : PA X (a :: es) (tA G W (Q.acons ea eas)) :=
  PA.conv (pa_cons ha hr hst) fun σ H P ⟨fm, pl, env, E, acc⟩ => tE_in E (acc_bindA acc) fun pl1 d c m1 v H1 E1 s1 o1 acc1 =>
    tA_in E1 (accA_bindA acc1) fun pl2 ds t m2 vs H2 E2 s2 r2 acc2 => by
      refine acc2 _ (v :: vs) H2 E2 (Ext.refl _) (Reps.cons ?_ (r2.sub arg_or))
      refine ((o1.arg).sub s2.arg).sub ?_
      cases Q.dirty c d with
      | false => exact arg_cold
      | true => rw [Bool.true_or]; exact Sub.rfl'
theorem most_line {n : Nat} (h : n ≤ Q.most) : n ≤ sizeLine := Nat.le_trans h (by decide)
theorem most_lt {n : Nat} (h : n < Q.most) : n < sizeLine := Nat.lt_of_lt_of_le h (by decide)
theorem q_tup {x1} (h : PA X es (tA G W eas)) : PE X (.Tuple es x1 pos) (tE G W (Q.tupx eas)) :=
  PE.conv (pe_tup h) fun σ H P ⟨fm, pl, env, E, acc⟩ => tA_in E (accA_bind acc) fun pl1 ds t m1 vs H1 E1 s1 r1 acc1 => by
    by_cases hl : ds.length ≤ Q.most
    · rw [if_pos hl] at acc1
      refine ⟨most_line (by rw [r1.1]; exact hl), fun p hp => ?_⟩
      refine acc1 pl1 _ _ (E1.later (same_new hp)) (ext_new hp) ?_
      cases t with
      | false =>
        have rr := Reps.sub r1 (ext_new (o := .tup vs) hp).cold
        exact Rep.tup (E1.newCold hp) upd_same rr.1 rr.2
      | true =>
        have rr := Reps.sub r1 (ext_new (o := .tup vs) hp).tr
        exact Rep.tup (E1.newTR hp) upd_same rr.1 rr.2
    · rw [if_neg hl] at acc1
      exact acc1.elim
end
section
variable {G : Cfg} {fm : Fm} {pl pl' : Pl} {env : Q.Env} {ks : List (V × D)} {σ : L2.St} {H H' : Hp} {p : Addr} {o : HO} {vs : List V} {ds : List D} {A : Reg}
/-- what is cold, but what is not there yet -/
theorem new_but (hp : H p = none) : Sub (Cold fm pl) H ((Cold fm pl).but p) (upd H p o) := ⟨fun a u h e => ⟨⟨h, ne_of_none e hp⟩, by rw [upd_ne (ne_of_none e hp)]; exact e⟩, List.prefix_refl _⟩
theorem mem_new {m : Mem} (E : EnvOk G fm pl (env.wm m) ks σ H) (hp : H p = none) : MemOk G ((Cold fm pl).but p) pl.cs (upd H p o) m :=
  E.mem.sub (new_but hp) rfl fun a _ u e => by rw [upd_ne (ne_of_none e hp)]; exact e
theorem fresh_lst {m : Mem} (E : EnvOk G fm pl (env.wm m) ks σ H) (r : Reps G (Cold fm pl) H vs ds) (hp : H p = none) : FOk G fm pl m H (upd H p (.lst vs)) (.ref p) (.lst ds) .fresh :=
  ⟨p, rfl, hp, E.newCold hp, ⟨vs, upd_same, r.sub (new_but hp)⟩, mem_new E hp⟩
end
end QW

set_option Elab.async false
set_option linter.all false
set_option maxRecDepth 100000
set_option maxHeartbeats 4000000
namespace QW
open PySem PySem.Spec PyProof.Rows L2
open Q (D S R RA RB Ctl Cl Pat Mem)
section
variable {X : Cx} {W : WX} {G : Cfg} {es : List Expr} {eas : Q.XA} {pos : Pos}
theorem q_lst (h : PA X es (tA G W eas)) : PE X (.List es pos) (tE G W (Q.lstx eas)) :=
  PE.conv (pe_lst h) fun σ H P ⟨fm, pl, env, E, acc⟩ => tA_in E (accA_bind acc) fun pl1 ds t m1 vs H1 E1 s1 r1 acc1 => by
    by_cases hl : ds.length ≤ Q.most
    · rw [if_pos hl] at acc1
      refine ⟨most_line (by rw [r1.1]; exact hl), fun p hp => ?_⟩
      refine acc1 pl1 _ _ (E1.later (same_new hp)) (ext_new hp) ?_
      cases t with
      | false => exact fresh_lst E1 r1 hp
      | true =>
        have rr := Reps.sub r1 (ext_new (o := .lst vs) hp).tr
        exact Rep.lst (E1.newTR hp) upd_same rr.1 rr.2
    · rw [if_neg hl] at acc1
      exact acc1.elim
end
/-! ### the operators -/
section
variable {G : Cfg}
theorem od_add : OpD G (rI0 fun i j => .int (i + j)) Q.opAdd := fun x y z h => by
  cases x <;> cases y <;> simp at h
  subst h
  refine ⟨rfl, fun A H vx vy rx ry => ?_⟩
  cases rx; cases ry
  exact ⟨_, .int _, fun P p => ⟨_, _, rfl, rfl, p⟩⟩
theorem od_sub : OpD G (rI0 fun i j => .int (i - j)) Q.opSub := fun x y z h => by
  cases x <;> cases y <;> simp at h
  subst h
  refine ⟨rfl, fun A H vx vy rx ry => ?_⟩
  cases rx; cases ry
  exact ⟨_, .int _, fun P p => ⟨_, _, rfl, rfl, p⟩⟩
theorem big_lt {i : Int} (h : -Q.big < i) (h' : i < Q.big) : i.natAbs < 2 ^ 128 := by
  have e : Q.big = 340282366920938463463374607431768211456 := rfl
  rw [e] at h h'
  omega
theorem od_mul : OpD G (rI CMulW fun i j => .int (i * j)) Q.opMul := fun x y z h => by
  cases x <;> cases y <;> simp at h
  obtain ⟨c, h⟩ := h
  subst h
  refine ⟨rfl, fun A H vx vy rx ry => ?_⟩
  cases rx; cases ry
  exact ⟨_, .int _, fun P p => ⟨_, _, rfl, rfl, wide_mul (big_lt c.1.1 c.1.2) (big_lt c.2.1 c.2.2) (by decide) (by decide) (by decide), p⟩⟩
theorem od_div : OpD G (rI CDivW fun i j => .int (i / j)) Q.opDiv := fun x y z h => by
  cases x <;> cases y <;> simp at h
  obtain ⟨c, h⟩ := h
  subst h
  refine ⟨rfl, fun A H vx vy rx ry => ?_⟩
  cases rx; cases ry
  refine ⟨_, .int _, fun P p => ⟨_, _, rfl, rfl, wide_div c.1 (big_lt (by have : Q.big = 340282366920938463463374607431768211456 := rfl; omega) c.2) (by decide) (by decide), p⟩⟩
theorem od_mod : OpD G (rI (fun _ j => 0 < j) fun i j => .int (i % j)) Q.opMod := fun x y z h => by
  cases x <;> cases y <;> simp at h
  obtain ⟨c, h⟩ := h
  subst h
  refine ⟨rfl, fun A H vx vy rx ry => ?_⟩
  cases rx; cases ry
  exact ⟨_, .int _, fun P p => ⟨_, _, rfl, rfl, c, p⟩⟩
theorem od_pow : OpD G (rI CPow fun i j => .int (i ^ j.toNat)) Q.opPow := fun x y z h => by
  cases x <;> cases y <;> simp at h
  obtain ⟨c, h⟩ := h
  subst h
  refine ⟨rfl, fun A H vx vy rx ry => ?_⟩
  cases rx; cases ry
  exact ⟨_, .int _, fun P p => ⟨_, _, rfl, rfl, ⟨by omega, by omega, by omega⟩, p⟩⟩
theorem ud_neg : UnD G (rU fun i => .int (-i)) Q.opNeg := fun x z h => by
  cases x <;> simp at h
  subst h
  refine ⟨rfl, fun A H vx rx => ?_⟩
  cases rx
  exact ⟨_, .int _, fun P p => ⟨_, rfl, p⟩⟩
theorem od_lt : OpD G (rI0 fun i j => .bl (decide (i < j))) Q.opLt := fun x y z h => by
  cases x <;> cases y <;> simp at h
  subst h
  refine ⟨rfl, fun A H vx vy rx ry => ?_⟩
  cases rx; cases ry
  exact ⟨_, .bl _, fun P p => ⟨_, _, rfl, rfl, p⟩⟩
theorem od_le : OpD G (rI0 fun i j => .bl (decide (i ≤ j))) Q.opLe := fun x y z h => by
  cases x <;> cases y <;> simp at h
  subst h
  refine ⟨rfl, fun A H vx vy rx ry => ?_⟩
  cases rx; cases ry
  exact ⟨_, .bl _, fun P p => ⟨_, _, rfl, rfl, p⟩⟩
theorem od_gt : OpD G (rI0 fun i j => .bl (decide (j < i))) Q.opGt := fun x y z h => by
  cases x <;> cases y <;> simp at h
  subst h
  refine ⟨rfl, fun A H vx vy rx ry => ?_⟩
  cases rx; cases ry
  exact ⟨_, .bl _, fun P p => ⟨_, _, rfl, rfl, p⟩⟩
theorem od_ge : OpD G (rI0 fun i j => .bl (decide (j ≤ i))) Q.opGe := fun x y z h => by
  cases x <;> cases y <;> simp at h
  subst h
  refine ⟨rfl, fun A H vx vy rx ry => ?_⟩
  cases rx; cases ry
  exact ⟨_, .bl _, fun P p => ⟨_, _, rfl, rfl, p⟩⟩
theorem eqS_scal {A : Reg} {H : Hp} {x y : D} {vx vy : V} {b : Bool} (rx : Rep G A H vx x) (ry : Rep G A H vy y) (h : Q.eqS x y = some b) : scal vx vy = true ∧ decide (vx = vy) = b := by
  cases rx <;> cases ry <;> simp_all [Q.eqS, scal]
theorem od_eq : OpD G rEq Q.opEq := fun x y z h => by
  simp only [Q.opEq, Option.map_eq_some_iff] at h
  obtain ⟨b, h, rfl⟩ := h
  refine ⟨rfl, fun A H vx vy rx ry => ?_⟩
  obtain ⟨h1, h2⟩ := eqS_scal rx ry h
  exact ⟨.bl b, .bl b, fun P p => ⟨h1, by rw [h2]; exact p⟩⟩
theorem od_ne : OpD G rNe Q.opNe := fun x y z h => by
  simp only [Q.opNe, Option.map_eq_some_iff] at h
  obtain ⟨b, h, rfl⟩ := h
  refine ⟨rfl, fun A H vx vy rx ry => ?_⟩
  obtain ⟨h1, h2⟩ := eqS_scal rx ry h
  exact ⟨.bl (!b), .bl _, fun P p => ⟨h1, by rw [h2]; exact p⟩⟩
theorem flat_of {A : Reg} {H : Hp} {x : D} {v : V} (r : Rep G A H v x) (s : x.scalar = true) : flatV v = true := by
  cases r <;> simp_all [Q.D.scalar, flatV]
theorem flats_of {A : Reg} {H : Hp} : ∀ {ds : List D} {vs : List V}, Reps G A H vs ds → ds.all Q.D.scalar = true → vs.all flatV = true
  | [], vs, r, _ => by rw [r.nil_iff.mpr rfl]; rfl
  | d :: ds, [], r, _ => by have := r.1; simp at this
  | d :: ds, v :: vs, r, s => by
    rw [List.all_cons, Bool.and_eq_true] at s ⊢
    exact ⟨flat_of r.head s.1, flats_of r.tail s.2⟩
theorem eqV_of {A : Reg} {H : Hp} {x y : D} {u v : V} (ry : Rep G A H v y) (rx : Rep G A H u x) (sy : y.scalar = true) (sx : x.scalar = true) : eqV v u = Q.D.eqv y x := by
  cases ry <;> cases rx <;> simp_all [Q.D.scalar, eqV, Q.D.eqv]
  all_goals rfl
theorem inV_of {A : Reg} {H : Hp} {x : D} {u : V} (rx : Rep G A H u x) (sx : x.scalar = true) : ∀ {ds : List D} {vs : List V}, Reps G A H vs ds → ds.all Q.D.scalar = true → inV u vs = ds.any fun y => Q.D.eqv y x
  | [], vs, r, _ => by rw [r.nil_iff.mpr rfl]; rfl
  | d :: ds, [], r, _ => by have := r.1; simp at this
  | d :: ds, v :: vs, r, s => by
    rw [List.all_cons, Bool.and_eq_true] at s
    have ih := inV_of rx sx r.tail s.2
    unfold inV at ih ⊢
    rw [List.any_cons, List.any_cons, ih, eqV_of r.head rx s.1 sx]
theorem mem_of {x : D} {ds : List D} {b : Bool} (h : Q.memP x ds = some b) : x.scalar = true ∧ ds.all Q.D.scalar = true ∧ (ds.any fun y => Q.D.eqv y x) = b := by
  unfold Q.memP at h
  split at h
  · rename_i q
    rw [Bool.and_eq_true] at q
    exact ⟨q.1, q.2, Option.some.inj h⟩
  · cases h
theorem od_in : OpD G (rIn G.K false) Q.opIn := fun x y z h => by
  cases y <;> simp only [Q.opIn, Option.map_eq_some_iff, reduceCtorEq] at h
  all_goals
    obtain ⟨b, h, rfl⟩ := h
    obtain ⟨h1, h2, h3⟩ := mem_of h
    refine ⟨rfl, fun A H vx vy rx ry => ?_⟩
  · obtain ⟨p, rfl⟩ := ry.tup_inv
    obtain ⟨vs, e, hs, r⟩ := ry.tupSq
    exact ⟨.bl b, .bl b, fun P q => ⟨p, vs, rfl, .inr hs, flat_of rx h1, flats_of r h2, by rw [inV_of rx h1 r h2, h3]; exact q⟩⟩
  · obtain ⟨p, rfl⟩ := ry.lst_inv
    obtain ⟨vs, e, hs, r⟩ := ry.lstSq
    exact ⟨.bl b, .bl b, fun P q => ⟨p, vs, rfl, .inl hs, flat_of rx h1, flats_of r h2, by rw [inV_of rx h1 r h2, h3]; exact q⟩⟩
theorem od_notIn : OpD G (rIn G.K true) Q.opNotIn := fun x y z h => by
  cases y <;> simp only [Q.opNotIn, Option.map_eq_some_iff, reduceCtorEq] at h
  all_goals
    obtain ⟨b, h, rfl⟩ := h
    obtain ⟨h1, h2, h3⟩ := mem_of h
    refine ⟨rfl, fun A H vx vy rx ry => ?_⟩
  · obtain ⟨p, rfl⟩ := ry.tup_inv
    obtain ⟨vs, e, hs, r⟩ := ry.tupSq
    exact ⟨.bl (!b), .bl _, fun P q => ⟨p, vs, rfl, .inr hs, flat_of rx h1, flats_of r h2, by rw [inV_of rx h1 r h2, h3]; exact q⟩⟩
  · obtain ⟨p, rfl⟩ := ry.lst_inv
    obtain ⟨vs, e, hs, r⟩ := ry.lstSq
    exact ⟨.bl (!b), .bl _, fun P q => ⟨p, vs, rfl, .inl hs, flat_of rx h1, flats_of r h2, by rw [inV_of rx h1 r h2, h3]; exact q⟩⟩
/-! deep == -/
mutual
def toPy : D → PyData
  | .non => .none
  | .bl b => .bool b
  | .int i => .int i
  | .str s => .str s
  | .tup xs => .tuple (toPys xs)
  | .lst xs => .list (toPys xs)
  | .frz _ => .none
  | .obj _ _ => .none
  | .dik _ => .none
  | .dtk _ => .none
  | .ptr _ => .none
def toPys : List D → List PyData
  | [] => []
  | x :: xs => toPy x :: toPys xs
end
mutual
theorem dp_of {A : Reg} {H : Hp} : ∀ {d : D} {v : V}, Rep G A H v d → d.plain = true → Dp G.K H v (toPy d)
  | .non, v, r, _ => by cases r; exact .non
  | .bl b, v, r, _ => by cases r; exact .bl b
  | .int b, v, r, _ => by cases r; exact .int b
  | .str b, v, r, _ => by cases r; exact .str b
  | .tup xs, v, r, p => by
    obtain ⟨a, rfl⟩ := r.tup_inv
    obtain ⟨vs, _, hs, r⟩ := r.tupSq
    rw [Q.D.plain] at p
    exact .tup hs (dps_of r p)
  | .lst xs, v, r, p => by
    obtain ⟨a, rfl⟩ := r.lst_inv
    obtain ⟨vs, _, hs, r⟩ := r.lstSq
    rw [Q.D.plain] at p
    exact .lst hs (dps_of r p)
  | .frz _, v, r, p => by simp [Q.D.plain] at p
  | .obj _ _, v, r, p => by simp [Q.D.plain] at p
  | .dik _, v, r, p => by simp [Q.D.plain] at p
  | .dtk _, v, r, p => by simp [Q.D.plain] at p
  | .ptr _, v, r, p => by simp [Q.D.plain] at p
theorem dps_of {A : Reg} {H : Hp} : ∀ {ds : List D} {vs : List V}, Reps G A H vs ds → Q.D.plains ds = true → DpAll G.K H vs (toPys ds)
  | [], vs, r, _ => by rw [r.nil_iff.mpr rfl]; exact .nil
  | d :: ds, [], r, _ => by have := r.1; simp at this
  | d :: ds, v :: vs, r, p => by
    rw [Q.D.plains, Bool.and_eq_true] at p
    exact .cons (dp_of r.head p.1) (dps_of r.tail p.2)
end
mutual
theorem lay_of : ∀ {d : D}, d.plain = true → (toPy d).canLay0 = true
  | .non, _ => by rw [toPy, PyData.canLay0]
  | .bl b, _ => by rw [toPy, PyData.canLay0]
  | .int b, _ => by rw [toPy, PyData.canLay0]
  | .str b, h => by
    rw [toPy, PyData.canLay0]
    rw [Q.D.plain] at h
    exact h
  | .tup xs, h => by rw [toPy, PyData.canLay0]; rw [Q.D.plain] at h; exact lays_of h
  | .lst xs, h => by rw [toPy, PyData.canLay0]; rw [Q.D.plain] at h; exact lays_of h
  | .frz _, p => by simp [Q.D.plain] at p
  | .obj _ _, p => by simp [Q.D.plain] at p
  | .dik _, p => by simp [Q.D.plain] at p
  | .dtk _, p => by simp [Q.D.plain] at p
  | .ptr _, p => by simp [Q.D.plain] at p
theorem lays_of : ∀ {ds : List D}, Q.D.plains ds = true → PyData.canLayAll0 (toPys ds) = true
  | [], _ => by rw [toPys, PyData.canLayAll0]
  | d :: ds, p => by
    rw [Q.D.plains, Bool.and_eq_true] at p
    rw [toPys, PyData.canLayAll0, lay_of p.1, lays_of p.2]
    rfl
end
mutual
theorem depth_of : ∀ {d : D}, (toPy d).depth = d.depth
  | .non => by rw [toPy, PyData.depth, Q.D.depth] <;> simp
  | .bl b => by rw [toPy, PyData.depth, Q.D.depth] <;> simp
  | .int b => by rw [toPy, PyData.depth, Q.D.depth] <;> simp
  | .str b => by rw [toPy, PyData.depth, Q.D.depth] <;> simp
  | .tup xs => by rw [toPy, PyData.depth, Q.D.depth, depths_of]
  | .lst xs => by rw [toPy, PyData.depth, Q.D.depth, depths_of]
  | .frz _ => by rw [toPy, PyData.depth, Q.D.depth] <;> simp
  | .obj _ _ => by rw [toPy, PyData.depth, Q.D.depth] <;> simp
  | .dik _ => by rw [toPy, PyData.depth, Q.D.depth] <;> simp
  | .dtk _ => by rw [toPy, PyData.depth, Q.D.depth] <;> simp
  | .ptr _ => by rw [toPy, PyData.depth, Q.D.depth] <;> simp
theorem depths_of : ∀ {ds : List D}, PyData.depthAll (toPys ds) = Q.D.depths ds
  | [] => by rw [toPys, PyData.depthAll, Q.D.depths]
  | d :: ds => by rw [toPys, PyData.depthAll, Q.D.depths, depth_of, depths_of]
end
mutual
theorem eqv_of : ∀ {d e : D}, d.plain = true → e.plain = true → PyData.eqv (toPy d) (toPy e) = Q.D.eqv d e
  | .tup xs, e, hd, he => by
    cases e with
    | tup ys =>
      rw [Q.D.plain] at hd he
      rw [toPy, toPy, PyData.eqv, Q.D.eqv, eqvs_of hd he]
    | frz _ => simp [Q.D.plain] at he
    | obj _ _ => simp [Q.D.plain] at he
    | dik _ => simp [Q.D.plain] at he
    | dtk _ => simp [Q.D.plain] at he
    | ptr _ => simp [Q.D.plain] at he
    | _ => simp [toPy, PyData.eqv, Q.D.eqv]
  | .lst xs, e, hd, he => by
    cases e with
    | lst ys =>
      rw [Q.D.plain] at hd he
      rw [toPy, toPy, PyData.eqv, Q.D.eqv, eqvs_of hd he]
    | frz _ => simp [Q.D.plain] at he
    | obj _ _ => simp [Q.D.plain] at he
    | dik _ => simp [Q.D.plain] at he
    | dtk _ => simp [Q.D.plain] at he
    | ptr _ => simp [Q.D.plain] at he
    | _ => simp [toPy, PyData.eqv, Q.D.eqv]
  | .non, e, hd, he => by cases e <;> simp [toPy, PyData.eqv, Q.D.eqv, Q.D.plain] at he ⊢
  | .bl _, e, hd, he => by cases e <;> simp [toPy, PyData.eqv, Q.D.eqv, Q.D.plain] at he ⊢
  | .int _, e, hd, he => by cases e <;> simp [toPy, PyData.eqv, Q.D.eqv, Q.D.plain] at he ⊢
  | .str _, e, hd, he => by
    cases e <;> simp [toPy, PyData.eqv, Q.D.eqv, Q.D.plain] at he ⊢
    rfl
  | .frz _, e, hd, he => by simp [Q.D.plain] at hd
  | .obj _ _, e, hd, he => by simp [Q.D.plain] at hd
  | .dik _, e, hd, he => by simp [Q.D.plain] at hd
  | .dtk _, e, hd, he => by simp [Q.D.plain] at hd
  | .ptr _, e, hd, he => by simp [Q.D.plain] at hd
theorem eqvs_of : ∀ {ds es : List D}, Q.D.plains ds = true → Q.D.plains es = true → PyData.eqvAll (toPys ds) (toPys es) = Q.D.eqvs ds es
  | [], es, _, _ => by cases es <;> simp [toPys, PyData.eqvAll, Q.D.eqvs]
  | d :: ds, es, p, q => by
    cases es with
    | nil => simp [toPys, PyData.eqvAll, Q.D.eqvs]
    | cons e es =>
      rw [Q.D.plains, Bool.and_eq_true] at p q
      rw [toPys, toPys, PyData.eqvAll, Q.D.eqvs, eqv_of p.1 q.1, eqvs_of p.2 q.2]
end
theorem eqP_some {x y : D} {b : Bool} (h : Q.eqP x y = some b) : x.plain = true ∧ y.plain = true ∧ SeqAt.shaped (toPy x) = true ∧ SeqAt.shaped (toPy y) = true ∧ PyData.eqv (toPy x) (toPy y) = b := by
  unfold Q.eqP at h
  split at h
  · rename_i q
    obtain ⟨p1, p2, d1, d2⟩ := q
    refine ⟨p1, p2, ?_, ?_, by rw [eqv_of p1 p2]; exact Option.some.inj h⟩
    · unfold SeqAt.shaped; rw [lay_of p1, depth_of]; simpa using d1
    · unfold SeqAt.shaped; rw [lay_of p2, depth_of]; simpa using d2
  · cases h
theorem od_eqP : OpD G (rEqD G.K) Q.opEqP := fun x y z h => by
  simp only [Q.opEqP, Option.map_eq_some_iff] at h
  obtain ⟨b, h, rfl⟩ := h
  obtain ⟨p1, p2, s1, s2, e⟩ := eqP_some h
  exact ⟨rfl, fun A H vx vy rx ry => ⟨.bl b, .bl b, fun P p => ⟨_, _, dp_of rx p1, dp_of ry p2, s1, s2, by rw [e]; exact p⟩⟩⟩
theorem od_neP : OpD G (rNeD G.K) Q.opNeP := fun x y z h => by
  simp only [Q.opNeP, Option.map_eq_some_iff] at h
  obtain ⟨b, h, rfl⟩ := h
  obtain ⟨p1, p2, s1, s2, e⟩ := eqP_some h
  exact ⟨rfl, fun A H vx vy rx ry => ⟨.bl (!b), .bl _, fun P p => ⟨_, _, dp_of rx p1, dp_of ry p2, s1, s2, by rw [e]; exact p⟩⟩⟩
end
end QW

set_option Elab.async false
set_option linter.all false
set_option maxRecDepth 100000
set_option maxHeartbeats 4000000
namespace QW
open PySem PySem.Spec PyProof.Rows L2
open Q (D S R RA RB Ctl Cl Pat Mem)
section
variable {G : Cfg} {fm : Fm} {pl : Pl} {H H' H1 : Hp} {v : V} {d : D} {c : Cl} {ds : List D} {env : Q.Env} {ks : List (V × D)} {σ : L2.St}
theorem part_ok {m : Mem} (h : Rep G (regC fm pl c) H' v d) : FOk G fm pl m H H' v d (Q.part c d) := by
  cases c with
  | taint =>
    unfold Q.part
    by_cases s : d.scalar = true
    · simp only [if_pos s]; exact Rep.scalar h s
    · simp only [if_neg s]; exact h
  | cold => exact h
  | fresh => exact h
  | hot => exact h
theorem atI_rep {A : Reg} {vs : List V} {i : Int} (r : Reps G A H vs ds) (h : Q.atI ds i = some d) : ∃ v, L2.atI vs i = some v ∧ Rep G A H v d := by
  have e : Q.atI ds i = (L2.ixN ds.length i).bind fun j => ds[j]? := rfl
  rw [e] at h
  have e2 : L2.atI vs i = (L2.ixN vs.length i).bind fun j => vs[j]? := rfl
  rw [e2, r.1]
  cases q : L2.ixN ds.length i with
  | none => rw [q] at h; cases h
  | some j =>
    rw [q] at h
    exact r.get h
theorem Reps.cut {A : Reg} {vs : List V} (r : Reps G A H vs ds) (lo hi : Option Int) : Reps G A H (cutV vs lo hi) (Q.cut ds lo hi) := by
  have e : cutV vs lo hi = (vs.drop (Q.sIx vs.length 0 lo)).take (Q.sIx vs.length vs.length hi - Q.sIx vs.length 0 lo) := rfl
  rw [e, r.1]
  exact (r.drop _).take _
theorem Reps.scalars {A B : Reg} {vs : List V} (r : Reps G A H vs ds) (s : ds.all Q.D.scalar = true) : Reps G B H' vs ds :=
  ⟨r.1, fun i v d a b => (r.2 i v d a b).scalar (List.all_eq_true.mp s d (List.mem_of_getElem? b))⟩
theorem new_reg {A : Reg} {p : Addr} {o : HO} (hp : H p = none) : Sub A H A (upd H p o) := ⟨fun a u h e => ⟨h, by rw [upd_ne (ne_of_none e hp)]; exact e⟩, List.prefix_refl _⟩
/-- a new list of items that were held so -/
theorem again_ok {vs : List V} {p : Addr} {m : Mem} (E : EnvOk G fm pl (env.wm m) ks σ H1) (r : Reps G (regC fm pl c) H1 vs ds) (hp : H1 p = none) : FOk G fm pl m H1 (upd H1 p (.lst vs)) (.ref p) (.lst ds) (Q.again c ds) := by
  have fr : Reps G (Cold fm pl) H1 vs ds → FOk G fm pl m H1 (upd H1 p (.lst vs)) (.ref p) (.lst ds) .fresh := fun r => fresh_lst E r hp
  cases c with
  | taint =>
    unfold Q.again
    by_cases q : ds.all Q.D.scalar = true
    · simp only [if_pos q]
      exact fr (r.scalars q)
    · simp only [if_neg q]
      exact Rep.lst (E.newTR hp) upd_same r.1 (r.sub (new_reg hp)).2
  | cold => exact fr r
  | fresh => exact fr r
  | hot => exact fr r
end
/-! ### subscripts, slices -/
section
variable {X : Cx} {W : WX} {G : Cfg} {a b : Expr} {ea eb : Q.X} {pos : Pos}
theorem fl_some {fm : Fm} {pl : Pl} {env : Q.Env} {σ : L2.St} {H : Hp} {m : Mem} {c : Cl} {o : Option D} {P : Pl → D → Cl → Mem → V → Hp → Prop} (h : AccR G W fm pl env σ H (Q.flT c m o) P) : ∃ z, o = some z ∧ AccR G W fm pl env σ H (.ok z (Q.part c z) m) P := by
  cases o with
  | none => exact h.elim
  | some z => exact ⟨z, rfl, h⟩
theorem q_idx (hK : X.K = G.K) (ha : PE X a (tE G W ea)) (hb : PE X b (tE G W eb)) (hs : PlainIx b := by exact fun _ _ => rfl) : PE X (.Subscript a b pos) (tE G W (Q.idx ea eb)) := by
  have ix : IxR X (rIx G.K) := hK ▸ ix_seq
  refine (pe_ix ix ha hb hs).conv fun σ H P ⟨fm, pl, env, E, acc⟩ => tE_in E (acc_bind acc) fun pl1 d c m1 v H1 E1 s1 o1 acc1 => tE_in E1 (acc_bind acc1) fun pl2 d2 c2 m2 v2 H2 E2 s2 o2 acc2 => ?_
  have i2 := o2.anyR
  obtain ⟨x, c', l, acc3⟩ := acc_rd E2 (o1.at s2) acc2
  obtain ⟨z, q, acc4⟩ := fl_some acc3
  cases x with
  | lst ds =>
    cases d2 with
    | int i =>
      cases i2
      obtain ⟨p, vs, rfl, e, r⟩ := l.lst
      obtain ⟨w, h1, h2⟩ := atI_rep r q
      exact .inl ⟨p, vs, i, w, rfl, rfl, SqL.of e, h1, acc4 _ _ H2 E2 (Ext.refl _) (part_ok h2)⟩
    | _ => cases q
  | tup ds =>
    cases d2 with
    | int i =>
      cases i2
      obtain ⟨p, vs, rfl, e, r⟩ := l.tup ds rfl
      obtain ⟨w, h1, h2⟩ := atI_rep r q
      exact .inr (.inl ⟨p, vs, i, w, rfl, rfl, SqT.of e, h1, acc4 _ _ H2 E2 (Ext.refl _) (part_ok h2)⟩)
    | _ => cases q
  | frz ns =>
    cases d2 with
    | int i =>
      cases i2
      have r := l.any
      obtain ⟨p, rfl⟩ := r.frz_inv
      have q : (Q.atI ns i).map D.int = some z := q
      cases q0 : Q.atI ns i with
      | none => rw [q0] at q; cases q
      | some n =>
        rw [q0] at q
        cases q
        refine .inl ⟨p, ns.map V.int, i, .int n, rfl, rfl, r.frzSq, ?_, acc4 _ _ H2 E2 (Ext.refl _) (part_ok (Rep.int n))⟩
        have e : Q.atI ns i = (L2.ixN ns.length i).bind fun j => ns[j]? := rfl
        have e2 : L2.atI (ns.map V.int) i = (L2.ixN (ns.map V.int).length i).bind fun j => (ns.map V.int)[j]? := rfl
        rw [e] at q0
        rw [e2, List.length_map]
        cases q' : L2.ixN ns.length i with
        | none => rw [q'] at q0; cases q0
        | some j =>
          rw [q'] at q0
          show (ns.map V.int)[j]? = _
          rw [List.getElem?_map, show ns[j]? = some n from q0]
          rfl
    | _ => cases q
  | _ => cases d2 <;> cases q
def AccO (G : Cfg) (fm : Fm) (pl : Pl) (env : Q.Env) (σ : L2.St) (H : Hp) (r : Q.RO) (P : Pl → Option Int → Mem → Hp → Prop) : Prop := match r with
  | .ok o m => ∀ pl' H', EnvOk G fm pl' (env.wm m) [] σ H' → Ext pl H pl' H' → P pl' o m H'
  | .bad => False
def tO (G : Cfg) (ev : Q.XO) : TO := fun σ H P => ∃ fm pl env, EnvOk G fm pl env [] σ H ∧ AccO G fm pl env σ H (ev env) fun _ o _ H' => P o H'
theorem q_onone : PO X none (tO G Q.onone) := ⟨fun pins s σ H P I h => po_none.run pins s σ H P I (by obtain ⟨fm, pl, env, E, acc⟩ := h; exact acc pl H E (Ext.refl _))⟩
theorem q_osome (ha : PE X a (tE G W ea)) : PO X (some a) (tO G (Q.osome ea)) := ⟨fun pins s σ H P I h => (po_some ha).run pins s σ H P I (by
  obtain ⟨fm, pl, env, E, acc⟩ := h
  refine ⟨fm, pl, env, E, ?_⟩
  have e : Q.osome ea env = Q.osS (ea env) := rfl
  rw [e] at acc
  cases q : ea env with
  | exc k fs m => rw [q] at acc; exact acc.elim
  | bad => rw [q] at acc; exact acc.elim
  | ok d c m =>
    rw [q] at acc
    cases d with
    | int i =>
      intro pl' v H' E' s o
      cases (o.anyR)
      exact ⟨i, rfl, acc pl' H' E' s⟩
    | _ => exact acc.elim)⟩
theorem accO_bind {fm : Fm} {pl : Pl} {env : Q.Env} {σ : L2.St} {H : Hp} {r : Q.RO} {f : Option Int → Mem → R} {P : Pl → D → Cl → Mem → V → Hp → Prop} (h : AccR G W fm pl env σ H (r.bind f) P) :
    AccO G fm pl env σ H r fun pl' o m H' => AccR G W fm pl' (env.wm m) σ H' (f o m) P := by
  cases r with
  | ok o m => exact fun pl' H' E s => AccR.later h s
  | bad => exact h
theorem AccO.imp {fm : Fm} {pl : Pl} {env : Q.Env} {σ : L2.St} {H : Hp} {r : Q.RO} {P P' : Pl → Option Int → Mem → Hp → Prop} (h : AccO G fm pl env σ H r P) (m : ∀ pl' o m H', EnvOk G fm pl' (env.wm m) [] σ H' → Ext pl H pl' H' → P pl' o m H' → P' pl' o m H') : AccO G fm pl env σ H r P' := by
  cases r with
  | ok o μ => exact fun pl' H' E s => m pl' o μ H' E s (h pl' H' E s)
  | bad => exact h
theorem q_slice {lo hi : Option Expr} {ol oh : Q.XO} {p2 : Pos} (hK : X.K = G.K) (ha : PE X a (tE G W ea)) (hl : PO X lo (tO G ol)) (hh : PO X hi (tO G oh)) : PE X (.Subscript a (.Slice lo hi none p2) pos) (tE G W (Q.slice ea ol oh)) := by
  have sl : SlR X (fun x l h H Q => rSlL G.K x l h H Q ∨ rSlA G.K x l h H Q) := hK ▸ (SlR.or sl_list sl_tupA)
  refine (pe_slice sl ha hl hh).conv fun σ H P ⟨fm, pl, env, E, acc⟩ => tE_in E (acc_bind acc) fun pl1 d c m1 v H1 E1 s1 o1 acc1 => ?_
  refine ⟨fm, pl1, _, E1, (accO_bind acc1).imp fun pl2 l m2 H2 E2 s2 acc2 => ⟨fm, pl2, _, E2, (accO_bind acc2).imp fun pl3 h m3 H3 E3 s3 acc3 => ?_⟩⟩
  obtain ⟨x, c', lk, acc4⟩ := acc_rd E3 (o1.at (s2.trans s3)) acc3
  cases x with
  | lst ds =>
    obtain ⟨p, vs, rfl, e, r⟩ := lk.lst
    exact .inl (⟨p, vs, rfl, SqL.of e, fun q hq => acc4 _ _ _ (E3.later (same_new hq)) (ext_new hq) (again_ok E3 (r.cut l h) hq)⟩)
  | frz ns =>
    have r := lk.any
    obtain ⟨p, rfl⟩ := r.frz_inv
    refine .inl (⟨p, ns.map V.int, rfl, r.frzSq, fun q hq => ?_⟩)
    have e : cutV (ns.map V.int) l h = (Q.cut ns l h).map V.int := by
      have e1 : cutV (ns.map V.int) l h = ((ns.map V.int).drop (Q.sIx (ns.map V.int).length 0 l)).take (Q.sIx (ns.map V.int).length (ns.map V.int).length h - Q.sIx (ns.map V.int).length 0 l) := rfl
      rw [e1, List.length_map, ← List.map_drop, ← List.map_take]
      rfl
    rw [e]
    exact acc4 _ _ _ (E3.later (same_new hq)) (ext_new hq) (fresh_lst E3 (reps_ints _) hq)
  | tup ds =>
    obtain ⟨p, vs, rfl, e, r⟩ := lk.tup ds rfl
    by_cases w : Q.sIx ds.length 0 l = 0 ∧ Q.sIx ds.length ds.length h = ds.length
    · have acc5 : AccR G W fm pl3 (env.wm m3) σ H3 (.ok (.tup ds) (Q.part c' (.tup ds)) m3) fun _ _ _ _ v H' => P v H' := by
        have e : Q.slS c' l h m3 (.tup ds) = if Q.sIx ds.length 0 l = 0 ∧ Q.sIx ds.length ds.length h = ds.length then .ok (.tup ds) (Q.part c' (.tup ds)) m3 else .ok (.tup (Q.cut ds l h)) (Q.part c' (.tup (Q.cut ds l h))) m3 := rfl
        rw [e, if_pos w] at acc4
        exact acc4
      exact .inr ⟨p, vs, rfl, SqT.of e, fun _ => acc5 _ _ _ E3 (Ext.refl _) (part_ok (lk.tupR ds rfl)), fun n => absurd (by rw [r.1]; exact w) n⟩
    · have acc5 : AccR G W fm pl3 (env.wm m3) σ H3 (.ok (.tup (Q.cut ds l h)) (Q.part c' (.tup (Q.cut ds l h))) m3) fun _ _ _ _ v H' => P v H' := by
        have e : Q.slS c' l h m3 (.tup ds) = if Q.sIx ds.length 0 l = 0 ∧ Q.sIx ds.length ds.length h = ds.length then .ok (.tup ds) (Q.part c' (.tup ds)) m3 else .ok (.tup (Q.cut ds l h)) (Q.part c' (.tup (Q.cut ds l h))) m3 := rfl
        rw [e, if_neg w] at acc4
        exact acc4
      refine .inr ⟨p, vs, rfl, SqT.of e, fun n => absurd (by rw [r.1] at n; exact n) w, fun _ q hq => ?_⟩
      refine acc5 _ _ _ (E3.later (same_new hq)) (ext_new hq) (part_ok ?_)
      have rc := (r.cut l h).sub (new_reg (o := .tup (cutV vs l h)) hq)
      refine Rep.tup ?_ upd_same rc.1 rc.2
      cases c' with
      | taint => exact E3.newTR hq
      | _ => exact E3.newCold hq
  | _ => exact acc4.elim
end
end QW

set_option Elab.async false
set_option linter.all false
set_option maxRecDepth 100000
set_option maxHeartbeats 4000000
namespace QW
open PySem PySem.Spec PyProof.Rows L2
open Q (D S R RA RB Ctl Cl Pat Mem)
/-! ### built-ins -/
/-- a call on one value, on two -/
def C1D (G : Cfg) (r : List V → Hp → VK → Prop) (f : D → Option D) : Prop :=
  ∀ x z, f x = some z → z.scalar = true ∧ ∀ (A : Reg) (H : Hp) vx, Rep G A H vx x → ∃ vz, Rep G A H vz z ∧ ∀ P : VK, P vz H → r [vx] H P
def C2D (G : Cfg) (r : List V → Hp → VK → Prop) (f : D → D → Option D) : Prop :=
  ∀ x y z, f x y = some z → z.scalar = true ∧ ∀ (A : Reg) (H : Hp) vx vy, Rep G A H vx x → Rep G A H vy y → ∃ vz, Rep G A H vz z ∧ ∀ P : VK, P vz H → r [vx, vy] H P
section
variable {X : Cx} {W : WX} {G : Cfg} {a b : Expr} {ea eb : Q.X} {p pos : Pos} {id : String} {x : Str} {r : List V → Hp → VK → Prop}
theorem q_call1 {f : D → Option D} (hc : CallR X (.builtin id) r) (hf : C1D G r f) (hm : X.mg x = none) (hv : bootBuiltins x = some (.builtin id)) (ha : PE X a (tE G W ea)) (hg : Gl X x := by rfl) (hn : x ≠ "__name__" := by decide) (hdb : (x == ("__debug__" : Str)) = false := by decide)
    (he : starEach (a :: []) X.env = (false, eval a X.env) :: starEach [] X.env := by rfl) (hpl : (backTo pos (starEach [] X.env)).any (·.1) = false := by rfl) :
    PE X (.Call (.Name x p) [a] [] pos) (tE G W (Q.op1 f ea)) :=
  (pe_callB hc hg hm hv (pa_cons ha pa_nil he) hn hdb he hpl).conv fun σ H P ⟨fm, pl, env, E, acc⟩ => tE_in E (acc_bind acc) fun pl1 d c m1 v H1 E1 s1 o1 acc1 => by
    obtain ⟨y, c', l, acc2⟩ := acc_rd E1 (o1.at (Ext.refl _)) acc1
    obtain ⟨z, q, acc3⟩ := ofO_some acc2
    obtain ⟨sz, k⟩ := hf y z q
    obtain ⟨vz, rz, k⟩ := k _ H1 v l.any
    exact k _ (acc3 _ vz H1 E1 (Ext.refl _) (rz.scalar sz))
theorem q_call2 {f : D → D → Option D} (hc : CallR X (.builtin id) r) (hf : C2D G r f) (hm : X.mg x = none) (hv : bootBuiltins x = some (.builtin id)) (ha : PE X a (tE G W ea)) (hb : PE X b (tE G W eb)) (hg : Gl X x := by rfl) (hn : x ≠ "__name__" := by decide) (hdb : (x == ("__debug__" : Str)) = false := by decide)
    (he : starEach (a :: [b]) X.env = (false, eval a X.env) :: starEach [b] X.env := by rfl) (he2 : starEach (b :: []) X.env = (false, eval b X.env) :: starEach [] X.env := by rfl) (hpl : (backTo pos (starEach [b] X.env)).any (·.1) = false := by rfl) :
    PE X (.Call (.Name x p) [a, b] [] pos) (tE G W (Q.op2 f ea eb)) :=
  (pe_callB hc hg hm hv (pa_cons ha (pa_cons hb pa_nil he2) he) hn hdb he hpl).conv fun σ H P ⟨fm, pl, env, E, acc⟩ => tE_in E (acc_bind acc) fun pl1 d c m1 v H1 E1 s1 o1 acc1 => tE_in E1 (acc_bind acc1) fun pl2 d2 c2 m2 v2 H2 E2 s2 o2 acc2 => by
    obtain ⟨y1, c', l1, acc3⟩ := acc_rd E2 (o1.at s2) acc2
    obtain ⟨y2, c'', l2, acc4⟩ := acc_rd E2 (o2.at (Ext.refl _)) acc3
    obtain ⟨z, q, acc5⟩ := ofO_some acc4
    obtain ⟨sz, k⟩ := hf y1 y2 z q
    obtain ⟨vz, rz, k⟩ := k _ H2 v v2 l1.any l2.any
    exact k _ (acc5 _ vz H2 E2 (Ext.refl _) (rz.scalar sz))
theorem cd_len : C1D G (fun xs H Q => ∃ x n, xs = [x] ∧ LenV G.K x H n ∧ Q (.int n) H) Q.fLen := fun x z h => by
  cases x <;> simp at h <;> subst h <;> refine ⟨rfl, fun A H vx rx => ?_⟩
  · obtain ⟨a, rfl⟩ := rx.tup_inv
    obtain ⟨vs, _, hs, r⟩ := rx.tupSq
    exact ⟨_, .int _, fun P q => ⟨_, vs.length, rfl, .inr ⟨vs, hs, rfl⟩, by rw [r.1]; exact q⟩⟩
  · obtain ⟨a, rfl⟩ := rx.lst_inv
    obtain ⟨vs, _, hs, r⟩ := rx.lstSq
    exact ⟨_, .int _, fun P q => ⟨_, vs.length, rfl, .inl ⟨vs, hs, rfl⟩, by rw [r.1]; exact q⟩⟩
  · obtain ⟨a, rfl⟩ := rx.frz_inv
    exact ⟨_, .int _, fun P q => ⟨_, _, rfl, .inl ⟨_, rx.frzSq, rfl⟩, by rw [List.length_map]; exact q⟩⟩
theorem cd_abs : C1D G (fun xs H Q => ∃ i, xs = [.int i] ∧ Q (.int (if i < 0 then -i else i)) H) Q.fAbs := fun x z h => by
  cases x <;> simp at h
  subst h
  refine ⟨rfl, fun A H vx rx => ?_⟩
  cases rx
  exact ⟨_, .int _, fun P q => ⟨_, rfl, q⟩⟩
theorem cd_max2 : C2D G (fun xs H Q => ∃ i j, xs = [.int i, .int j] ∧ Q (.int (if j > i then j else i)) H) Q.fMax2 := fun x y z h => by
  cases x <;> cases y <;> simp at h
  subst h
  refine ⟨rfl, fun A H vx vy rx ry => ?_⟩
  cases rx; cases ry
  exact ⟨_, .int _, fun P q => ⟨_, _, rfl, q⟩⟩
theorem cd_min2 : C2D G (fun xs H Q => ∃ i j, xs = [.int i, .int j] ∧ Q (.int (if j < i then j else i)) H) Q.fMin2 := fun x y z h => by
  cases x <;> cases y <;> simp at h
  subst h
  refine ⟨rfl, fun A H vx vy rx ry => ?_⟩
  cases rx; cases ry
  exact ⟨_, .int _, fun P q => ⟨_, _, rfl, q⟩⟩
theorem lst_ints {A : Reg} {H : Hp} {a : Addr} {ds : List D} {ns : List Int} (h : Rep G A H (.ref a) (.lst ds)) (q : Q.intsD ds = some ns) : H a = some (.lst (ns.map V.int)) := by
  obtain ⟨vs, e, hs, r⟩ := h.lstSq
  rw [← r.intsD (Q.of_ints q)]
  exact e
theorem cd_sum : C1D G (rSum G.K) Q.fSum := fun x z h => by
  cases x <;> simp at h
  obtain ⟨ns, q, rfl⟩ := h
  refine ⟨rfl, fun A H vx rx => ?_⟩
  obtain ⟨a, rfl⟩ := rx.lst_inv
  exact ⟨_, .int _, fun P p => ⟨a, ns, rfl, SqL.of (lst_ints rx q), p⟩⟩
theorem foldl_max (l : List Int) : ∀ x : Int, (l.foldl max x ∈ x :: l) ∧ ∀ y ∈ x :: l, y ≤ l.foldl max x := by
  induction l with
  | nil => intro x; exact ⟨by simp, fun y h => by simp at h; simp [h]⟩
  | cons z r ih =>
    intro x
    obtain ⟨h1, h2⟩ := ih (max x z)
    rw [List.foldl_cons]
    have h3 := h2 (max x z) List.mem_cons_self
    refine ⟨?_, fun y h => ?_⟩
    · rcases List.mem_cons.mp h1 with e | m
      · rw [e]
        by_cases q : x ≤ z
        · rw [Int.max_eq_right q]; simp
        · rw [Int.max_eq_left (by omega)]; simp
      · exact List.mem_cons_of_mem _ (List.mem_cons_of_mem _ m)
    · rcases List.mem_cons.mp h with rfl | m
      · exact Int.le_trans (Int.le_max_left _ _) h3
      · rcases List.mem_cons.mp m with rfl | m
        · exact Int.le_trans (Int.le_max_right _ _) h3
        · exact h2 y (List.mem_cons_of_mem _ m)
theorem foldl_min (l : List Int) : ∀ x : Int, (l.foldl min x ∈ x :: l) ∧ ∀ y ∈ x :: l, l.foldl min x ≤ y := by
  induction l with
  | nil => intro x; exact ⟨by simp, fun y h => by simp at h; simp [h]⟩
  | cons z r ih =>
    intro x
    obtain ⟨h1, h2⟩ := ih (min x z)
    rw [List.foldl_cons]
    have h3 := h2 (min x z) List.mem_cons_self
    refine ⟨?_, fun y h => ?_⟩
    · rcases List.mem_cons.mp h1 with e | m
      · rw [e]
        by_cases q : x ≤ z
        · rw [Int.min_eq_left q]; simp
        · rw [Int.min_eq_right (by omega)]; simp
      · exact List.mem_cons_of_mem _ (List.mem_cons_of_mem _ m)
    · rcases List.mem_cons.mp h with rfl | m
      · exact Int.le_trans h3 (Int.min_le_left _ _)
      · rcases List.mem_cons.mp m with rfl | m
        · exact Int.le_trans h3 (Int.min_le_right _ _)
        · exact h2 y (List.mem_cons_of_mem _ m)
theorem cd_max : C1D G (rMax G.K) Q.fMax := fun x z h => by
  cases x with
  | lst ds =>
    have h : Q.fMxS Q.maxI (Q.intsD ds) = some z := h
    cases q : Q.intsD ds with
    | none => rw [q] at h; cases h
    | some ns =>
      rw [q] at h
      cases ns with
      | nil => cases h
      | cons n ns =>
        cases h
        refine ⟨rfl, fun A H vx rx => ?_⟩
        obtain ⟨a, rfl⟩ := rx.lst_inv
        refine ⟨_, .int _, fun P p => ⟨a, n :: ns, rfl, SqL.of (lst_ints rx q), by simp, fun m hm hle => ?_⟩⟩
        obtain ⟨h1, h2⟩ := foldl_max ns n
        have e : m = Q.maxI (n :: ns) := Int.le_antisymm (h2 m hm) (hle _ h1)
        rw [e]
        exact p
  | _ => simp at h
theorem cd_min : C1D G (rMin G.K) Q.fMin := fun x z h => by
  cases x with
  | lst ds =>
    have h : Q.fMxS Q.minI (Q.intsD ds) = some z := h
    cases q : Q.intsD ds with
    | none => rw [q] at h; cases h
    | some ns =>
      rw [q] at h
      cases ns with
      | nil => cases h
      | cons n ns =>
        cases h
        refine ⟨rfl, fun A H vx rx => ?_⟩
        obtain ⟨a, rfl⟩ := rx.lst_inv
        refine ⟨_, .int _, fun P p => ⟨a, n :: ns, rfl, SqL.of (lst_ints rx q), by simp, fun m hm hle => ?_⟩⟩
        obtain ⟨h1, h2⟩ := foldl_min ns n
        have e : m = Q.minI (n :: ns) := Int.le_antisymm (hle _ h1) (h2 m hm)
        rw [e]
        exact p
  | _ => simp at h
theorem lst_bools {A : Reg} {H : Hp} {a : Addr} {ds : List D} {ns : List Bool} (h : Rep G A H (.ref a) (.lst ds)) (q : Q.bools ds = some ns) : H a = some (.lst (ns.map V.bl)) := by
  obtain ⟨vs, e, hs, r⟩ := h.lstSq
  rw [← r.bools (Q.of_bools q)]
  exact e
theorem cd_any : C1D G (rAny G.K) Q.fAny := fun x z h => by
  cases x <;> simp at h
  obtain ⟨ns, q, rfl⟩ := h
  refine ⟨rfl, fun A H vx rx => ?_⟩
  obtain ⟨a, rfl⟩ := rx.lst_inv
  exact ⟨_, .bl _, fun P p => ⟨a, ns, rfl, SqL.of (lst_bools rx q), p⟩⟩
theorem cd_all : C1D G (rAll G.K) Q.fAll := fun x z h => by
  cases x <;> simp at h
  obtain ⟨ns, q, rfl⟩ := h
  refine ⟨rfl, fun A H vx rx => ?_⟩
  obtain ⟨a, rfl⟩ := rx.lst_inv
  exact ⟨_, .bl _, fun P p => ⟨a, ns, rfl, SqL.of (lst_bools rx q), p⟩⟩
theorem sortI_of {ns ns' : List Int} (p : ns'.Perm ns) (h : ns'.Pairwise (· ≤ ·)) : ns' = Q.sortI ns := by
  refine List.Perm.eq_of_pairwise (le := (· ≤ ·)) (fun a b _ _ => Int.le_antisymm) h ?_ (p.trans (List.mergeSort_perm _ _).symm)
  refine (List.pairwise_mergeSort (le := fun a b : Int => decide (a ≤ b)) (fun a b c h1 h2 => ?_) (fun a b => ?_) ns).imp fun h => of_decide_eq_true h
  · exact decide_eq_true (Int.le_trans (of_decide_eq_true h1) (of_decide_eq_true h2))
  · rw [Bool.or_eq_true, decide_eq_true_eq, decide_eq_true_eq]; omega
theorem q_sortedI (hK : X.K = G.K) (hm : X.mg "sorted" = none) (ha : PE X a (tE G W ea)) (hg : Gl X "sorted" := by rfl)
    (he : starEach (a :: []) X.env = (false, eval a X.env) :: starEach [] X.env := by rfl) (hpl : (backTo pos (starEach [] X.env)).any (·.1) = false := by rfl) :
    PE X (.Call (.Name "sorted" p) [a] [] pos) (tE G W (Q.sortedI ea)) := by
  have cr : CallR X (.builtin "sorted") (rSortedI G.K) := hK ▸ cr_sortedI
  refine (pe_callB cr hg hm (by decide +kernel) (pa_cons ha pa_nil he) (by decide) (by decide) he hpl).conv fun σ H P ⟨fm, pl, env, E, acc⟩ => tE_in E (acc_bind acc) fun pl1 d c m1 v H1 E1 s1 o1 acc1 => ?_
  obtain ⟨y, c', l, acc2⟩ := acc_rd E1 (o1.at (Ext.refl _)) acc1
  cases y with
  | lst ds =>
    have acc2 : AccR G W fm pl1 (env.wm m1) σ H1 (Q.soT m1 (Q.intsD ds)) fun _ _ _ _ v H' => P v H' := acc2
    cases q : Q.intsD ds with
    | none => rw [q] at acc2; exact acc2.elim
    | some ns =>
      rw [q] at acc2
      have r := l.any
      obtain ⟨a', rfl⟩ := r.lst_inv
      refine ⟨a', ns, rfl, SqL.of (lst_ints r q), fun ns' t pm pw ht => ?_⟩
      rw [sortI_of pm pw]
      exact acc2 _ _ _ (E1.later (same_new ht)) (ext_new ht) (fresh_lst E1 (reps_ints _) ht)
  | _ => exact acc2.elim
theorem q_listOf (hK : X.K = G.K) (hm : X.mg "list" = none) (ha : PE X a (tE G W ea)) (hg : Gl X "list" := by rfl)
    (he : starEach (a :: []) X.env = (false, eval a X.env) :: starEach [] X.env := by rfl) (hpl : (backTo pos (starEach [] X.env)).any (·.1) = false := by rfl) :
    PE X (.Call (.Name "list" p) [a] [] pos) (tE G W (Q.listOf ea)) := by
  have cr : CallR X (.type "list") (fun xs H Q => ∃ p ys, xs = [.ref p] ∧ (SqL G.K H p ys ∨ SqT G.K H p ys) ∧ ∀ l, H l = none → Q (.ref l) (upd H l (.lst ys))) := hK ▸ call_list_of
  refine (pe_callTy cr hg hm (by decide +kernel) (pa_cons ha pa_nil he) (by decide) (by decide) he hpl).conv fun σ H P ⟨fm, pl, env, E, acc⟩ => tE_in E (acc_bind acc) fun pl1 d c m1 v H1 E1 s1 o1 acc1 => ?_
  obtain ⟨y, c', lk, acc2⟩ := acc_rd E1 (o1.at (Ext.refl _)) acc1
  cases y with
  | lst ds =>
    obtain ⟨q, vs, rfl, e, r⟩ := lk.lst
    exact ⟨q, vs, rfl, .inl (SqL.of e), fun l hl => acc2 _ _ _ (E1.later (same_new hl)) (ext_new hl) (again_ok E1 r hl)⟩
  | tup ds =>
    obtain ⟨q, vs, rfl, e, r⟩ := lk.tup ds rfl
    exact ⟨q, vs, rfl, .inr (SqT.of e), fun l hl => acc2 _ _ _ (E1.later (same_new hl)) (ext_new hl) (again_ok E1 r hl)⟩
  | frz ns =>
    have r := lk.any
    obtain ⟨q, rfl⟩ := r.frz_inv
    exact ⟨q, _, rfl, .inl r.frzSq, fun l hl => acc2 _ _ _ (E1.later (same_new hl)) (ext_new hl) (again_ok E1 (c := c') (reps_ints ns) hl)⟩
  | _ => exact acc2.elim
theorem q_tupOf (hK : X.K = G.K) (hm : X.mg "tuple" = none) (ha : PE X a (tE G W ea)) (hg : Gl X "tuple" := by rfl)
    (he : starEach (a :: []) X.env = (false, eval a X.env) :: starEach [] X.env := by rfl) (hpl : (backTo pos (starEach [] X.env)).any (·.1) = false := by rfl) :
    PE X (.Call (.Name "tuple" p) [a] [] pos) (tE G W (Q.tupOf ea)) := by
  have cr : CallR X (.type "tuple") (fun xs H Q => ∃ p ys, xs = [.ref p] ∧ ((SqL G.K H p ys ∧ ∀ l, H l = none → Q (.ref l) (upd H l (.tup ys))) ∨ (SqT G.K H p ys ∧ Q (.ref p) H))) := hK ▸ call_tuple_of
  refine (pe_callTy cr hg hm (by decide +kernel) (pa_cons ha pa_nil he) (by decide) (by decide) he hpl).conv fun σ H P ⟨fm, pl, env, E, acc⟩ => tE_in E (acc_bind acc) fun pl1 d c m1 v H1 E1 s1 o1 acc1 => ?_
  obtain ⟨y, c', lk, acc2⟩ := acc_rd E1 (o1.at (Ext.refl _)) acc1
  cases y with
  | lst ds =>
    obtain ⟨q, vs, rfl, e, r⟩ := lk.lst
    refine ⟨q, vs, rfl, .inl ⟨SqL.of e, fun l hl => acc2 _ _ _ (E1.later (same_new hl)) (ext_new hl) (part_ok ?_)⟩⟩
    have r2 := r.sub (new_reg (o := .tup vs) hl)
    refine Rep.tup ?_ upd_same r2.1 r2.2
    cases c' with
    | taint => exact E1.newTR hl
    | _ => exact E1.newCold hl
  | tup ds =>
    obtain ⟨q, vs, rfl, e, r⟩ := lk.tup ds rfl
    exact ⟨q, vs, rfl, .inr ⟨SqT.of e, acc2 _ _ _ E1 (Ext.refl _) (part_ok (lk.tupR ds rfl))⟩⟩
  | _ => exact acc2.elim
theorem q_listRng2 (hc : X.calm = true) (hml : X.mg "list" = none) (hmr : X.mg "range" = none) (ha : PE X a (tE G W ea)) (hb : PE X b (tE G W eb)) {p1 p2 : Pos} (hg : Gl X "list" := by rfl) (hg2 : Gl X "range" := by rfl)
    (na : starEach [.Call (.Name "range" p1) [a, b] [] p2] X.env = (false, eval (.Call (.Name "range" p1) [a, b] [] p2) X.env) :: starEach [] X.env := by rfl)
    (nr : starEach [a, b] X.env = (false, eval a X.env) :: starEach [b] X.env := by rfl) (nr2 : starEach [b] X.env = (false, eval b X.env) :: starEach [] X.env := by rfl) (nr3 : (backTo p2 (starEach [b] X.env)).any (·.1) = false := by rfl) :
    PE X (.Call (.Name "list" p) [.Call (.Name "range" p1) [a, b] [] p2] [] pos) (tE G W (Q.listRng ea eb)) :=
  (pe_listRg hc hg hml (prg_2 (pos := p2) hg2 hmr ha hb nr nr2 nr3) na).conv fun σ H P ⟨fm, pl, env, E, acc⟩ => tE_in E (acc_bind acc) fun pl1 d c m1 v H1 E1 s1 o1 acc1 => tE_in E1 (acc_bind acc1) fun pl2 d2 c2 m2 v2 H2 E2 s2 o2 acc2 => by
    cases d with
    | int i =>
      cases d2 with
      | int j =>
        cases (o1.anyR); cases (o2.anyR)
        have acc2 : AccR G W fm pl2 (env.wm m2) σ H2 (if (-4000000000 < i ∧ i < 4000000000) ∧ (-4000000000 < j ∧ j < 4000000000) ∧ j - i ≤ 1000000 then .ok (.lst (((List.range (j - i).toNat).map fun (k : Nat) => i + (k : Int)).map D.int)) .fresh m2 else .bad) fun _ _ _ _ v H' => P v H' := acc2
        by_cases q : (-4000000000 < i ∧ i < 4000000000) ∧ (-4000000000 < j ∧ j < 4000000000) ∧ j - i ≤ 1000000
        · rw [if_pos q] at acc2
          refine ⟨i, j, rfl, rfl, ⟨by omega, by omega, by omega, by omega, by omega⟩, fun t ht => ?_⟩
          refine acc2 _ _ _ (E2.later (same_new ht)) (ext_new ht) (fresh_lst E2 ?_ ht)
          have e : rgV i j = ((List.range (j - i).toNat).map fun (k : Nat) => i + (k : Int)).map V.int := by
            unfold rgV
            rw [List.map_map]
            rfl
          rw [e]
          exact reps_ints _
        · rw [if_neg q] at acc2; exact acc2.elim
      | _ => exact acc2.elim
    | _ => cases d2 <;> exact acc2.elim
theorem q_cat (ha : PE X a (tE G W ea)) (hb : PE X b (tE G W eb)) : PE X (.BinOp a .Add b pos) (tE G W (Q.catx ea eb)) :=
  (pe_op op_cat ha hb).conv fun σ H P ⟨fm, pl, env, E, acc⟩ => tE_in E (acc_bind acc) fun pl1 d c m1 v H1 E1 s1 o1 acc1 => tE_in E1 (acc_bind acc1) fun pl2 d2 c2 m2 v2 H2 E2 s2 o2 acc2 => by
    obtain ⟨x, c, l1, acc3⟩ := acc_rd E2 (o1.at s2) acc2
    obtain ⟨y, c2, l2, acc4⟩ := acc_rd E2 (o2.at (Ext.refl _)) acc3
    cases x with
    | lst xs =>
      cases y with
      | lst ys =>
        have acc4 : AccR G W fm pl2 (env.wm m2) σ H2 (if xs.length + ys.length ≤ Q.most then .ok (.lst (xs ++ ys)) (Q.agC (Q.again c xs) (Q.again c2 ys)) m2 else .bad) fun _ _ _ _ v H' => P v H' := acc4
        by_cases q : xs.length + ys.length ≤ Q.most
        · rw [if_pos q] at acc4
          obtain ⟨p1, vs, rfl, e1, r1⟩ := l1.lst
          obtain ⟨p2, us, rfl, e2, r2⟩ := l2.lst
          refine ⟨p1, p2, vs, us, rfl, rfl, e1, e2, most_line (by rw [r1.1, r2.1]; exact q), fun t ht => ?_⟩
          refine acc4 _ _ _ (E2.later (same_new ht)) (ext_new ht) ?_
          have taint : FOk G fm pl2 m2 H2 (upd H2 t (.lst (vs ++ us))) (.ref t) (.lst (xs ++ ys)) .taint := by
            have r := ((r1.sub reg_tr).append (r2.sub reg_tr)).sub (new_reg (o := .lst (vs ++ us)) ht)
            exact Rep.lst (E2.newTR ht) upd_same r.1 r.2
          have go : ∀ {c : Cl} {ds : List D} {ws : List V}, Reps G (regC fm pl2 c) H2 ws ds → Q.again c ds = .fresh → Reps G (Cold fm pl2) H2 ws ds := fun {c ds ws} r h => by
            cases c with
            | taint =>
              unfold Q.again at h
              by_cases z : ds.all Q.D.scalar = true
              · exact r.scalars z
              · simp only [if_neg z] at h; cases h
            | cold => exact r
            | fresh => exact r
            | hot => exact r
          cases h1 : Q.again c xs with
          | fresh =>
            cases h2 : Q.again c2 ys with
            | fresh => exact fresh_lst E2 ((go r1 h1).append (go r2 h2)) ht
            | _ => exact taint
          | _ => exact taint
        · rw [if_neg q] at acc4; exact acc4.elim
      | _ => exact acc4.elim
    | _ => cases y <;> exact acc4.elim
theorem Reps.rep {A : Reg} {H : Hp} {vs : List V} {ds : List D} (r : Reps G A H vs ds) : ∀ n : Nat, Reps G A H (List.replicate n vs).flatten (List.replicate n ds).flatten
  | 0 => Reps.nil
  | n + 1 => by
    rw [List.replicate_succ, List.replicate_succ, List.flatten_cons, List.flatten_cons]
    exact r.append (Reps.rep r n)
theorem q_rep (ha : PE X a (tE G W ea)) (hb : PE X b (tE G W eb)) : PE X (.BinOp a .Mult b pos) (tE G W (Q.repx ea eb)) :=
  (pe_op op_rep ha hb).conv fun σ H P ⟨fm, pl, env, E, acc⟩ => tE_in E (acc_bind acc) fun pl1 d c m1 v H1 E1 s1 o1 acc1 => tE_in E1 (acc_bind acc1) fun pl2 d2 c2 m2 v2 H2 E2 s2 o2 acc2 => by
    obtain ⟨x, c, l1, acc3⟩ := acc_rd E2 (o1.at s2) acc2
    cases x with
    | lst xs =>
      cases d2 with
      | int k =>
        have acc3 : AccR G W fm pl2 (env.wm m2) σ H2 (if k ≤ 1000000 ∧ -1000000 ≤ k ∧ xs.length * k.toNat ≤ Q.most then .ok (.lst (Q.repD xs k)) (Q.again c xs) m2 else .bad) fun _ _ _ _ v H' => P v H' := acc3
        by_cases q : k ≤ 1000000 ∧ -1000000 ≤ k ∧ xs.length * k.toNat ≤ Q.most
        · rw [if_pos q] at acc3
          cases (o2.anyR)
          obtain ⟨p1, vs, rfl, e1, r1⟩ := l1.lst
          refine ⟨p1, k, vs, rfl, rfl, e1, by omega, by omega, most_line (by rw [r1.1]; exact q.2.2), fun t ht => ?_⟩
          refine acc3 _ _ _ (E2.later (same_new ht)) (ext_new ht) ?_
          have fr : Reps G (Cold fm pl2) H2 vs xs → FOk G fm pl2 m2 H2 (upd H2 t (.lst (List.replicate k.toNat vs).flatten)) (.ref t) (.lst (Q.repD xs k)) .fresh := fun r => fresh_lst E2 (r.rep k.toNat) ht
          cases c with
          | taint =>
            unfold Q.again
            by_cases z : xs.all Q.D.scalar = true
            · simp only [if_pos z]
              exact fr (r1.scalars z)
            · simp only [if_neg z]
              have rr := (r1.rep k.toNat).sub (new_reg (o := .lst (List.replicate k.toNat vs).flatten) ht)
              exact Rep.lst (E2.newTR ht) upd_same rr.1 rr.2
          | cold => exact fr r1
          | fresh => exact fr r1
          | hot => exact fr r1
        · rw [if_neg q] at acc3; exact acc3.elim
      | _ => exact acc3.elim
    | _ => cases d2 <;> exact acc3.elim
end
end QW

set_option Elab.async false
set_option linter.all false
set_option maxRecDepth 100000
set_option maxHeartbeats 4000000
namespace QW
open PySem PySem.Spec PyProof.Rows L2
open Q (D S R RA RB Ctl Cl Pat Mem)
/-! ### what is walked -/
def Reg.new (A : Reg) (H : Hp) : Reg := ⟨fun a => A.p a ∨ H a = none, A.mu⟩
theorem sub_new {A : Reg} {H : Hp} : Sub A H (A.new H) H := ⟨fun _ _ h e => ⟨.inl h, e⟩, List.prefix_refl _⟩
/-- an iterator that yields these items while its sources stand -/
def ItOk (G : Cfg) (J : It) (src : List (V × D)) (ds : List D) : Prop :=
  ∀ (A : Reg) (H : Hp) (i : Nat), (∀ s ∈ src, Rep G A H s.1 s.2) → (i < ds.length → J.go i H) ∧ (i = ds.length → J.stop i H) ∧ ∀ x H' d, J.yld i H x H' → ds[i]? = some d → Same H H' ∧ Rep G (A.new H) H' x d
def AccI (G : Cfg) (fm : Fm) (pl : Pl) (env : Q.Env) (σ : L2.St) (H : Hp) (r : RA) (P : Pl → Mem → It → Hp → Prop) : Prop := match r with
  | .ok ds _ m => ∀ pl' J src H', EnvOk G fm pl' (env.wm m) [] σ H' → Ext pl H pl' H' → (∀ s ∈ src, Rep G (Cold fm pl') H' s.1 s.2) → ItOk G J src ds → P pl' m J H'
  | _ => False
/-- the same, while what stood still stands as it did -/
def ItOkL (G : Cfg) (fm : Fm) (pl : Pl) (H : Hp) (J : It) (src : List (V × D)) (ds : List D) : Prop :=
  ∀ (pl2 : Pl) (H2 : Hp) (i : Nat), (∀ a o, H a = some o → a ∉ pl.cs → H2 a = some o) → Sub (Cold fm pl) H (Cold fm pl2) H2 → (∀ s ∈ src, Rep G (Cold fm pl2) H2 s.1 s.2) → (i < ds.length → J.go i H2) ∧ (i = ds.length → J.stop i H2) ∧ ∀ x H' d, J.yld i H2 x H' → ds[i]? = some d → Same H2 H' ∧ Rep G ((Cold fm pl2).new H2) H' x d
def AccL (G : Cfg) (fm : Fm) (pl : Pl) (env : Q.Env) (σ : L2.St) (H : Hp) (r : RA) (P : Pl → Mem → It → Hp → Prop) : Prop := match r with
  | .ok ds _ m => ∀ pl' J src H', EnvOk G fm pl' (env.wm m) [] σ H' → Ext pl H pl' H' → (∀ s ∈ src, Rep G (Cold fm pl') H' s.1 s.2) → ItOkL G fm pl' H' J src ds → P pl' m J H'
  | _ => False
theorem AccL.acc {G : Cfg} {fm : Fm} {pl : Pl} {env : Q.Env} {σ : L2.St} {H : Hp} {r : RA} {P : Pl → Mem → It → Hp → Prop} (h : AccL G fm pl env σ H r P) : AccI G fm pl env σ H r P := by
  cases r with
  | ok d c μ => exact fun pl' J src H' E s q k => h pl' J src H' E s q fun pl2 H2 i _ _ hs => k (Cold fm pl2) H2 i hs
  | exc k fs μ => exact h
  | bad => exact h
def tL (G : Cfg) (ev : Q.XI) : TI := fun σ H P => ∃ fm pl env, EnvOk G fm pl env [] σ H ∧ AccL G fm pl env σ H (ev env) fun _ _ J H' => P J H'
def tI (G : Cfg) (ev : Q.XI) : TI := fun σ H P => ∃ fm pl env, EnvOk G fm pl env [] σ H ∧ AccI G fm pl env σ H (ev env) fun _ _ J H' => P J H'
theorem tL_tI {G : Cfg} {ev : Q.XI} {σ : L2.St} {H : Hp} {P : It → Hp → Prop} (h : tL G ev σ H P) : tI G ev σ H P := by
  obtain ⟨fm, pl, env, E, acc⟩ := h
  exact ⟨fm, pl, env, E, acc.acc⟩
section
variable {G : Cfg} {fm : Fm} {pl pl1 : Pl} {H H1 : Hp} {env : Q.Env} {σ : L2.St}
theorem AccI.later {r : RA} {m : Mem} {P : Pl → Mem → It → Hp → Prop} (h : AccI G fm pl env σ H r P) (s : Ext pl H pl1 H1) : AccI G fm pl1 (env.wm m) σ H1 r P := by
  cases r with
  | ok d c μ => exact fun pl' J src H' E s' q k => h pl' J src H' E (s.trans s') q k
  | exc k fs μ => exact h
  | bad => exact h
theorem accI_bind {r : R} {k : D → Cl → Mem → RA} {P : Pl → Mem → It → Hp → Prop} {W : WX} (h : AccI G fm pl env σ H (r.bindA k) P) :
    AccR G W fm pl env σ H r fun pl' d c m _ H' => AccI G fm pl' (env.wm m) σ H' (k d c m) P := by
  cases r with
  | ok d c m => exact fun pl' v H' E s q => AccI.later h s
  | exc k fs m => exact h.elim
  | bad => exact h
theorem it_list {K : PySem.W.Frag} (hK : K = G.K) {a : Addr} {ds : List D} : ItOk G (Itl K a) [(.ref a, .lst ds)] ds := by
  subst hK
  intro A H i hs
  have r := hs _ List.mem_cons_self
  obtain ⟨vs, e, sq, rr⟩ := r.lstSq
  refine ⟨fun hi => ?_, fun hi => ⟨vs, sq, by rw [rr.1, hi]; exact Nat.le_refl _⟩, fun x H' d y q => ?_⟩
  · obtain ⟨v, h1, _⟩ := rr.get (List.getElem?_eq_getElem hi)
    exact ⟨vs, v, sq, h1⟩
  · obtain ⟨rfl, y⟩ := y
    obtain ⟨v, h1, h2⟩ := rr.get q
    have e2 := (y vs sq).symm.trans h1
    cases e2
    exact ⟨Same.refl _, h2.sub sub_new⟩
theorem it_tup {K : PySem.W.Frag} (hK : K = G.K) {a : Addr} {ds : List D} : ItOk G (Itt K a) [(.ref a, .tup ds)] ds := by
  subst hK
  intro A H i hs
  have r := hs _ List.mem_cons_self
  obtain ⟨vs, e, sq, rr⟩ := r.tupSq
  refine ⟨fun hi => ?_, fun hi => ⟨vs, sq, by rw [rr.1, hi]; exact Nat.le_refl _⟩, fun x H' d y q => ?_⟩
  · obtain ⟨v, h1, _⟩ := rr.get (List.getElem?_eq_getElem hi)
    exact ⟨vs, v, sq, h1⟩
  · obtain ⟨rfl, y⟩ := y
    obtain ⟨v, h1, h2⟩ := rr.get q
    have e2 := (y vs sq).symm.trans h1
    cases e2
    exact ⟨Same.refl _, h2.sub sub_new⟩
theorem it_frz {K : PySem.W.Frag} (hK : K = G.K) {a : Addr} {ns : List Int} : ItOk G (Itl K a) [(.ref a, .frz ns)] (ns.map D.int) := by
  subst hK
  intro A H i hs
  have r := hs _ List.mem_cons_self
  have sq := r.frzSq
  have rr : Reps G A H (ns.map V.int) (ns.map D.int) := reps_ints ns
  refine ⟨fun hi => ?_, fun hi => ⟨_, sq, by rw [rr.1, hi]; exact Nat.le_refl _⟩, fun x H' d y q => ?_⟩
  · obtain ⟨v, h1, _⟩ := rr.get (List.getElem?_eq_getElem hi)
    exact ⟨_, v, sq, h1⟩
  · obtain ⟨rfl, y⟩ := y
    obtain ⟨v, h1, h2⟩ := rr.get q
    have e2 := (y _ sq).symm.trans h1
    cases e2
    exact ⟨Same.refl _, h2.sub sub_new⟩
theorem rng_length (lo hi : Int) : (Q.rng lo hi).length = (hi - lo).toNat := by simp [Q.rng]
theorem it_rng {lo : Int} {n : Nat} {ns : List Int} (h : ns = (List.range n).map fun (i : Nat) => lo + (i : Int)) : ItOk G (Itr lo n) [] (ns.map D.int) := by
  subst h
  intro A H i hs
  refine ⟨fun hi => (by simpa using hi : i < n), fun hi => (by simp at hi; omega : n ≤ i), fun x H' d y q => ?_⟩
  obtain ⟨rfl, rfl⟩ := y
  have hi : i < n := by
    have := (List.getElem?_eq_some_iff.mp q).1
    simpa using this
  rw [List.map_map, List.getElem?_map, List.getElem?_range hi] at q
  cases q
  exact ⟨Same.refl _, Rep.int _⟩
end
section
variable {X : Cx} {W : WX} {G : Cfg} {a b tg : Expr} {ea eb : Q.X} {p pos : Pos}
/-- over a list (or the script) -/
theorem q_ilst (hK : X.K = G.K) (ha : PE X a (tE G W ea)) : PI X tg a (tI G (Q.ilst ea)) :=
  (pi_list ha).conv fun σ H P ⟨fm, pl, env, E, acc⟩ => tE_in E (accI_bind (W := W) acc) fun pl1 d c m1 v H1 E1 s1 o1 acc1 => by
    have cl : ∀ ds, Rep G (Cold fm pl1) H1 v (.lst ds) → AccI G fm pl1 (env.wm m1) σ H1 (RA.ok ds false m1) (fun _ _ J H' => P J H') → ∃ a, v = .ref a ∧ (∃ xs, SqL X.K H1 a xs) ∧ P (Itl X.K a) H1 := fun ds r acc2 => by
      obtain ⟨q, rfl⟩ := r.lst_inv
      obtain ⟨vs, e, sq, _⟩ := r.lstSq
      exact ⟨q, rfl, ⟨vs, hK ▸ sq⟩, acc2 _ _ [(.ref q, .lst ds)] H1 E1 (Ext.refl _) (fun s m => by simp at m; subst m; exact r) (it_list hK)⟩
    cases c with
    | hot => cases d <;> exact acc1.elim
    | taint => cases d <;> exact acc1.elim
    | cold =>
      cases d with
      | lst ds => exact cl ds o1 acc1
      | frz ns =>
        have r : Rep G (Cold fm pl1) H1 v (.frz ns) := o1
        obtain ⟨q, rfl⟩ := r.frz_inv
        exact ⟨q, rfl, ⟨_, hK ▸ r.frzSq⟩, acc1 _ _ [(.ref q, .frz ns)] H1 E1 (Ext.refl _) (fun s m => by simp at m; subst m; exact r) (it_frz hK)⟩
      | _ => exact acc1.elim
    | fresh =>
      cases d with
      | lst ds => exact cl ds (o1.clean rfl) acc1
      | _ => exact acc1.elim
/-- over a tuple -/
theorem q_itup (hK : X.K = G.K) (ha : PE X a (tE G W ea)) : PI X tg a (tI G (Q.itup ea)) :=
  (pi_tup ha).conv fun σ H P ⟨fm, pl, env, E, acc⟩ => tE_in E (accI_bind (W := W) acc) fun pl1 d c m1 v H1 E1 s1 o1 acc1 => by
    cases c with
    | cold =>
      cases d with
      | tup ds =>
        have r : Rep G (Cold fm pl1) H1 v (.tup ds) := o1
        obtain ⟨q, rfl⟩ := r.tup_inv
        obtain ⟨vs, e, sq, _⟩ := r.tupSq
        exact ⟨q, rfl, ⟨vs, hK ▸ sq⟩, acc1 _ _ [(.ref q, .tup ds)] H1 E1 (Ext.refl _) (fun s m => by simp at m; subst m; exact r) (it_tup hK)⟩
      | _ => exact acc1.elim
    | _ => cases d <;> exact acc1.elim
theorem q_irng1 (hm : X.mg "range" = none) (ha : PE X a (tE G W ea)) (hg : Gl X "range" := by rfl) (hst : starEach [a] X.env = [(false, eval a X.env)] := by rfl)
    (he : starEach (a :: []) X.env = (false, eval a X.env) :: starEach [] X.env := by rfl) : PI X tg (.Call (.Name "range" p) [a] [] pos) (tI G (Q.irng1 ea)) :=
  (pi_range1 hg hm (pa_cons ha pa_nil he) hst).conv fun σ H P ⟨fm, pl, env, E, acc⟩ => tE_in E (accI_bind acc) fun pl1 d c m1 v H1 E1 s1 o1 acc1 => by
    cases d with
    | int n =>
      cases (o1.anyR)
      have acc1 : AccI G fm pl1 (env.wm m1) σ H1 (if -Q.lim ≤ n ∧ n < Q.lim then .ok ((Q.rng 0 n).map D.int) false m1 else .bad) (fun _ _ J H' => P J H') := acc1
      by_cases q : -Q.lim ≤ n ∧ n < Q.lim
      · rw [if_pos q] at acc1
        refine ⟨n, rfl, q.1, q.2, acc1 _ _ [] H1 E1 (Ext.refl _) (fun s m => by simp at m) (it_rng ?_)⟩
        unfold Q.rng
        rw [Int.sub_zero]
      · rw [if_neg q] at acc1; exact acc1.elim
    | _ => exact acc1.elim
theorem q_irng2 (hm : X.mg "range" = none) (ha : PE X a (tE G W ea)) (hb : PE X b (tE G W eb)) (hg : Gl X "range" := by rfl) (hst : starEach [a, b] X.env = [(false, eval a X.env), (false, eval b X.env)] := by rfl) (hst2 : starEach [b] X.env = [(false, eval b X.env)] := by rfl)
    (he : starEach (a :: [b]) X.env = (false, eval a X.env) :: starEach [b] X.env := by rfl) (he2 : starEach (b :: []) X.env = (false, eval b X.env) :: starEach [] X.env := by rfl) : PI X tg (.Call (.Name "range" p) [a, b] [] pos) (tI G (Q.irng2 ea eb)) :=
  (pi_range2 hg hm (pa_cons ha (pa_cons hb pa_nil he2) he) hst hst2).conv fun σ H P ⟨fm, pl, env, E, acc⟩ => tE_in E (accI_bind acc) fun pl1 d c m1 v H1 E1 s1 o1 acc1 => by
    refine tE_in E1 (accI_bind acc1) fun pl2 d2 c2 m2 v2 H2 E2 s2 o2 acc2 => ?_
    cases d with
    | int n =>
      cases d2 with
      | int m =>
        cases (o1.anyR); cases (o2.anyR)
        have acc2 : AccI G fm pl2 (env.wm m2) σ H2 (if (-Q.lim ≤ n ∧ n < Q.lim) ∧ -Q.lim ≤ m ∧ m < Q.lim then .ok ((Q.rng n m).map D.int) false m2 else .bad) (fun _ _ J H' => P J H') := acc2
        by_cases q : (-Q.lim ≤ n ∧ n < Q.lim) ∧ -Q.lim ≤ m ∧ m < Q.lim
        · rw [if_pos q] at acc2
          exact ⟨n, m, rfl, ⟨q.1.1, q.1.2, q.2.1, q.2.2⟩, acc2 _ _ [] H2 E2 (Ext.refl _) (fun s m => by simp at m) (it_rng rfl)⟩
        · rw [if_neg q] at acc2; exact acc2.elim
      | _ => exact acc2.elim
    | _ => cases d2 <;> exact acc2.elim
end
/-! ### targets -/
def Pat.slots : Pat → List Nat
  | .nm i => [i]
  | .tp is => is
def Keeps (is : List Nat) (σ σ' : L2.St) : Prop := σ'.length = σ.length ∧ ∀ j, j ∉ is → σ'[j]? = σ[j]?
def tG (G : Cfg) (p : Pat) : TG := fun v σ H P => ∃ fm pl env ks d env', EnvOk G fm pl env ks σ H ∧ Rep G (Cold fm pl) H v d ∧ p.put d env = some env' ∧ ∀ σ', EnvOk G fm pl env' ks σ' H → Keeps (Pat.slots p) σ σ' → P σ' H
def tGs (G : Cfg) (is : List Nat) : TGs := fun vs σ H P => ∃ fm pl env ks ds env', EnvOk G fm pl env ks σ H ∧ Reps G (Cold fm pl) H vs ds ∧ Q.setMany is ds env = some env' ∧ ∀ σ', EnvOk G fm pl env' ks σ' H → Keeps is σ σ' → P σ' H
section
variable {G : Cfg} {fm : Fm} {pl : Pl} {env : Q.Env} {ks : List (V × D)} {σ : L2.St} {H : Hp} {v : V} {d : D}
theorem get_set {α : Type} {l : List α} {i j : Nat} {x y : α} (h : (l.set i x)[j]? = some y) : (j = i ∧ i < l.length ∧ y = x) ∨ (j ≠ i ∧ l[j]? = some y) := by
  by_cases e : i = j
  · subst e
    have hi := (List.getElem?_eq_some_iff.mp h).1
    rw [List.length_set] at hi
    rw [List.getElem?_set_self hi] at h
    exact .inl ⟨rfl, hi, (Option.some.inj h).symm⟩
  · rw [List.getElem?_set_ne e] at h
    exact .inr ⟨fun q => e q.symm, h⟩
/-- a slot holds something that is not hot -/
theorem EnvOk.putNo {i : Nat} {o : Option V} (E : EnvOk G fm pl env ks σ H) {s1 : S} (hs1 : ¬ isHot s1) (hi : i < env.sl.length → SlotOk G fm pl H s1 (some o)) : EnvOk G fm pl (env.set i s1) ks (σ.set i o) H where
  ex := E.ex
  dom := E.dom
  tA := E.tA
  len := by
    show (σ.set i o).length = (env.sl.set i s1).length
    rw [List.length_set, List.length_set]; exact E.len
  bor := E.bor
  c0 := E.c0
  mup := E.mup
  ms0 := E.ms0
  msh := E.msh
  hn := E.hn
  cn := E.cn
  mem := E.mem
  slot := fun j s q => by
    rcases get_set (show (env.sl.set i s1)[j]? = some s from q) with ⟨rfl, hl, rfl⟩ | ⟨hne, q⟩
    · rw [List.getElem?_set_self (by rw [E.len]; exact hl)]
      exact hi hl
    · rw [List.getElem?_set_ne (fun z => hne z.symm)]
      exact E.slot j s q
  inj := fun j k s t p a b c d e f => by
    have old : ∀ {m : Nat} {u : S}, (env.set i s1).sl[m]? = some u → isHot u → (σ.set i o)[m]? = some (some (.ref p)) → env.sl[m]? = some u ∧ σ[m]? = some (some (.ref p)) := fun {m u} h hh hσ => by
      rcases get_set (show (env.sl.set i s1)[m]? = some u from h) with ⟨rfl, hl, rfl⟩ | ⟨hne, h⟩
      · exact absurd hh hs1
      · rw [List.getElem?_set_ne (fun z => hne z.symm)] at hσ
        exact ⟨h, hσ⟩
    obtain ⟨a1, a2⟩ := old a c e
    obtain ⟨b1, b2⟩ := old b d f
    exact E.inj j k s t p a1 b1 c d a2 b2
  fr := E.fr
theorem EnvOk.setCold (E : EnvOk G fm pl env ks σ H) (r : Rep G (Cold fm pl) H v d) (i : Nat) : EnvOk G fm pl (env.set i (.cold d)) ks (σ.set i (some v)) H :=
  E.putNo (s1 := .cold d) (fun z => z) fun _ => ⟨v, rfl, r⟩
theorem Keeps.refl {is : List Nat} : Keeps is σ σ := ⟨rfl, fun _ _ => rfl⟩
theorem Keeps.set {i : Nat} {x : Option V} : Keeps [i] σ (σ.set i x) := ⟨List.length_set, fun j h => List.getElem?_set_ne (fun z => h (by simp [z]))⟩
variable {X : Cx} {pos : Pos}
theorem q_nm (i : Nat) {x : Str} (hN : X.N.Nodup) (hi : X.N[i]? = some x := by rfl) (hx : Loc X.env.scope x := by first | exact .inl rfl | exact .inr rfl)
    (hf : X.fn x = true ∨ X.env.scope.names.lookup x = some .local := by first | exact .inl rfl | exact .inr rfl) : PG X (.Name x pos) (tG G (.nm i)) :=
  (pg_name hN hi hx hf).conv fun v σ H P ⟨fm, pl, env, ks, d, env', E, r, q, k⟩ => by
    cases q
    exact k _ (E.setCold r i) Keeps.set
theorem q_gnil : PGs X [] (tGs G []) := ⟨fun pins s σ H vs us P I r h => pgs_nil.run pins s σ H vs us P I r (by
  obtain ⟨fm, pl, env, ks, ds, env', E, rr, q, k⟩ := h
  cases ds with
  | nil => cases q; exact ⟨rr.nil_iff.mpr rfl, k σ E Keeps.refl⟩
  | cons _ _ => cases q)⟩
theorem q_gcons {e : Expr} {es : List Expr} {i : Nat} {is : List Nat} (h1 : PG X e (tG G (.nm i))) (h2 : PGs X es (tGs G is))
    (hs : (assignEach (e :: es) X.env).map (·.2) = assign e X.env :: (assignEach es X.env).map (·.2) := by rfl) : PGs X (e :: es) (tGs G (i :: is)) :=
  ⟨fun pins s σ H vs us P I r h => (pgs_cons h1 h2 hs).run pins s σ H vs us P I r (by
    obtain ⟨fm, pl, env, ks, ds, env', E, rr, q, k⟩ := h
    cases ds with
    | nil => cases q
    | cons d ds =>
      cases vs with
      | nil => have := rr.1; simp at this
      | cons v vs =>
        refine ⟨v, vs, rfl, fm, pl, env, ks, d, _, E, rr.head, rfl, fun σ1 E1 k1 => ?_⟩
        refine ⟨fm, pl, _, ks, ds, env', E1, rr.tail, q, fun σ2 E2 k2 => k σ2 E2 ⟨k2.1.trans k1.1, fun j hj => ?_⟩⟩
        simp at hj
        rw [k2.2 j hj.2, k1.2 j (by simp [Pat.slots]; exact hj.1)])⟩
theorem setMany_length : ∀ {is : List Nat} {ds : List D} {e e' : Q.Env}, Q.setMany is ds e = some e' → ds.length = is.length
  | [], [], _, _, _ => rfl
  | [], _ :: _, _, _, h => by cases h
  | _ :: _, [], _, _, h => by cases h
  | _ :: is, _ :: ds, _, _, h => by simp [setMany_length (is := is) (ds := ds) h]
theorem q_tp {es : List Expr} {k : Nat} {is : List Nat} (hK : X.K = G.K) (hc : X.calm = true) (h : PGs X es (tGs G is))
    (hn : (assignEach es X.env).length = is.length := by rfl) (hst : (assignEach es X.env).findIdx? (·.1) = none := by rfl) : PG X (.Tuple es k pos) (tG G (.tp is)) :=
  (pg_tup hc h hn hst).conv fun v σ H P ⟨fm, pl, env, ks, d, env', E, r, q, k⟩ => by
    cases d with
    | tup ds =>
      obtain ⟨a, rfl⟩ := r.tup_inv
      obtain ⟨vs, _, sq, rr⟩ := r.tupSq
      exact ⟨a, vs, rfl, hK ▸ sq, by rw [rr.1]; exact setMany_length q, fm, pl, env, ks, ds, env', E, rr, q, k⟩
    | _ => cases q
end
end QW

set_option Elab.async false
set_option linter.all false
set_option maxRecDepth 100000
set_option maxHeartbeats 4000000
namespace QW
open PySem PySem.Spec PyProof.Rows L2
open Q (D S R RA RB Ctl Cl Pat Mem)
/-! ### comprehensions -/
theorem wipe_get (σ : L2.St) : ∀ (vs : List Nat) (j : Nat), (wipe σ vs)[j]? = if j ∈ vs ∧ j < σ.length then some none else σ[j]?
  | [], j => by simp [wipe]
  | v :: vs, j => by
    rw [wipe]
    by_cases e : v = j
    · subst e
      by_cases h : v < σ.length
      · rw [List.getElem?_set_self (by rw [wipe_length]; exact h), if_pos ⟨List.mem_cons_self, h⟩]
      · rw [if_neg (fun z => h z.2), List.getElem?_eq_none (by rw [List.length_set, wipe_length]; omega), List.getElem?_eq_none (by omega)]
    · rw [List.getElem?_set_ne e, wipe_get σ vs j]
      have : (j ∈ v :: vs) = (j ∈ vs) := by simp [Ne.symm e]
      simp only [this]
theorem wipe_keeps {σ σ' : L2.St} {vs is : List Nat} (h : Keeps is (wipe σ vs) σ') (hs : ∀ i ∈ is, i ∈ vs) : wipe σ' vs = wipe σ vs := by
  apply List.ext_getElem?
  intro j
  have hl : σ'.length = σ.length := by rw [h.1, wipe_length]
  rw [wipe_get, wipe_get, hl]
  by_cases c : j ∈ vs ∧ j < σ.length
  · rw [if_pos c, if_pos c]
  · rw [if_neg c, if_neg c]
    by_cases m : j ∈ is
    · have : ¬ j < σ.length := fun z => c ⟨hs j m, z⟩
      rw [List.getElem?_eq_none (by omega), List.getElem?_eq_none (by omega)]
    · rw [h.2 j m, wipe_get, if_neg c]
theorem wipeL_length (e : List S) (vs : List Nat) : (Q.wipeL e vs).length = e.length := by
  induction vs with
  | nil => rfl
  | cons v vs ih => rw [Q.wipeL, List.length_set, ih]
theorem wipeL_get (e : List S) : ∀ (vs : List Nat) (j : Nat), (Q.wipeL e vs)[j]? = if j ∈ vs ∧ j < e.length then some S.no else e[j]?
  | [], j => by simp [Q.wipeL]
  | v :: vs, j => by
    rw [Q.wipeL]
    by_cases c : v = j
    · subst c
      by_cases h : v < e.length
      · rw [List.getElem?_set_self (by rw [wipeL_length]; exact h), if_pos ⟨List.mem_cons_self, h⟩]
      · rw [if_neg (fun z => h z.2), List.getElem?_eq_none (by rw [List.length_set, wipeL_length]; omega), List.getElem?_eq_none (by omega)]
    · rw [List.getElem?_set_ne c, wipeL_get e vs j]
      have : (j ∈ v :: vs) = (j ∈ vs) := by simp [Ne.symm c]
      simp only [this]
section
variable {G : Cfg} {fm : Fm} {pl : Pl} {env : Q.Env} {ks : List (V × D)} {σ : L2.St} {H : Hp} {v : V} {d : D}
theorem EnvOk.wipe (E : EnvOk G fm pl env ks σ H) (vs : List Nat) : EnvOk G fm pl (Q.wipeE env vs) ks (L2.wipe σ vs) H where
  ex := E.ex
  dom := E.dom
  tA := E.tA
  len := by
    show (L2.wipe σ vs).length = (Q.wipeL env.sl vs).length
    rw [wipe_length, wipeL_length, E.len]
  bor := E.bor
  c0 := E.c0
  mup := E.mup
  ms0 := E.ms0
  msh := E.msh
  hn := E.hn
  cn := E.cn
  mem := E.mem
  slot := fun j s q => by
    have q : (Q.wipeL env.sl vs)[j]? = some s := q
    rw [wipeL_get] at q
    rw [wipe_get, E.len]
    split at q
    · cases q; trivial
    · rename_i c; rw [if_neg c]; exact E.slot j s q
  inj := fun j k s t p h1 h2 h3 h4 h5 h6 => by
    have h1 : (Q.wipeL env.sl vs)[j]? = some s := h1
    have h2 : (Q.wipeL env.sl vs)[k]? = some t := h2
    rw [wipeL_get] at h1 h2
    rw [wipe_get, E.len] at h5 h6
    split at h1
    · cases h1; exact h3.elim
    · rename_i c1
      split at h2
      · cases h2; exact h4.elim
      · rename_i c2
        rw [if_neg c1] at h5
        rw [if_neg c2] at h6
        exact E.inj j k s t p h1 h2 h3 h4 h5 h6
  fr := E.fr
def Pl.addH (pl : Pl) (p : Addr) : Pl := ⟨p :: pl.hs, pl.cs, pl.mu⟩
theorem hide_sub {p : Addr} {o : HO} (hp : H p = none) : Sub (Cold fm pl) H (Cold fm (pl.addH p)) (upd H p o) := ⟨fun a u h e => ⟨⟨h.1, fun m => by
    rcases List.mem_cons.mp m with z | m
    · rw [z, hp] at e; cases e
    · exact h.2.1 m, h.2.2⟩, by rw [upd_ne (ne_of_none e hp)]; exact e⟩, List.prefix_refl _⟩
theorem hide_new {p : Addr} {o : HO} (hp : H p = none) : ∀ a u, New fm pl a → H a = some u → New fm (pl.addH p) a ∧ upd H p o a = some u := fun a u h e => ⟨⟨h.1, fun m => by
    rcases List.mem_cons.mp m with z | m
    · rw [z, hp] at e; cases e
    · exact h.2.1 m, h.2.2⟩, by rw [upd_ne (ne_of_none e hp)]; exact e⟩
theorem SlotOk.sub {s : S} {o : Option (Option V)} {pl' : Pl} {H' : Hp} (h : SlotOk G fm pl H s o) (c : Sub (Cold fm pl) H (Cold fm pl') H') (hh : ∀ a ∈ pl.hs, a ∈ pl'.hs) (hk : ∀ a ∈ pl.hs, ∀ o, H a = some o → H' a = some o) (hb : ∀ a o, fm.B a → H a = some o → H' a = some o) (hn : ∀ a o, New fm pl a → H a = some o → New fm pl' a ∧ H' a = some o) : SlotOk G fm pl' H' s o := by
  cases s with
  | no => trivial
  | cold d =>
    obtain ⟨v, a, b⟩ := h
    exact ⟨v, a, b.sub c⟩
  | hot d =>
    obtain ⟨p, a, b, n, k⟩ := h
    exact ⟨p, a, hh p b, n, k.sub c fun o q => hk p b o q⟩
  | slf k ds =>
    obtain ⟨p, a, b, n, k⟩ := h
    exact ⟨p, a, hh p b, n, k.sub c fun o q => hk p b o q⟩
  | bor d =>
    obtain ⟨v, a, b⟩ := h
    exact ⟨v, a, b.sub ⟨fun a o h q => ⟨h, hb a o h q⟩, c.mu⟩⟩
  | exn k fs =>
    obtain ⟨a, cls, dd, b, e, r⟩ := h
    exact ⟨a, cls, dd, b, e, r.sub c hn⟩
/-- a new object that from now on is no longer cold -/
theorem EnvOk.hide {p : Addr} {o : HO} (E : EnvOk G fm pl env ks σ H) (hp : H p = none) (no : NT o := by intro _ z; cases z) : EnvOk G fm (pl.addH p) env ks σ (upd H p o) where
  ex := (E.later (same_new hp)).ex
  dom := (E.later (same_new hp)).dom
  tA := E.tA
  len := E.len
  bor := E.bor
  c0 := E.c0
  mup := E.mup
  ms0 := E.ms0
  msh := fun a m => (E.msh a m).imp (fun h => List.mem_cons_of_mem _ h) id
  hn := fun a m => by
    rcases List.mem_cons.mp m with rfl | m
    · exact ⟨.inr (E.newH0 hp), Lv.of upd_same no⟩
    · exact ((E.later (same_new hp)).hn a m)
  cn := fun a m => by
    obtain ⟨h1, h2, h3⟩ := (E.later (same_new (o := o) hp)).cn a m
    refine ⟨h1, h2, fun z => ?_⟩
    rcases List.mem_cons.mp z with rfl | z
    · exact E.newCs hp m
    · exact h3 z
  mem := E.mem.sub (hide_sub hp) rfl fun a _ o e => same_new hp a o e
  slot := fun i s q => SlotOk.sub (E.slot i s q) (hide_sub hp) (fun a m => List.mem_cons_of_mem _ m) (fun a _ o e => same_new hp a o e) (fun a o _ e => same_new hp a o e) (hide_new hp)
  inj := E.inj
  fr := fun k m => (E.fr k m).sub (hide_sub hp)
theorem upd_keep {p a : Addr} {o u : HO} (h : a ≠ p) (e : H a = some u) : upd H p o a = some u := by rw [upd_ne h]; exact e
theorem upd_lv {p : Addr} {o : HO} {a : Addr} (no : NT o) (h : Lv H a) : Lv (upd H p o) a := by
  by_cases z : a = p
  · rw [z]; exact Lv.of upd_same no
  · exact h.keep fun u e => by rw [upd_ne z]; exact e
theorem upd_dom {p : Addr} {o : HO} {a : Addr} (h : H a ≠ none) : upd H p o a ≠ none := by
  by_cases z : a = p
  · rw [z, upd_same]; exact fun q => nomatch q
  · rw [upd_ne z]; exact h
theorem EnvOk.notBor (E : EnvOk G fm pl env ks σ H) {p : Addr} (hp : p ∈ pl.hs ∨ p ∈ pl.cs) : ¬ fm.B p := fun b => hp.elim (E.borH b) (E.borC b)
theorem upd_cold {p : Addr} {o : HO} (hp : p ∈ pl.hs ∨ p ∈ pl.cs) : Sub (Cold fm pl) H (Cold fm pl) (upd H p o) := ⟨fun a u h e => ⟨h, upd_keep (fun z => hp.elim (fun m => h.2.1 (z ▸ m)) fun m => h.2.2 (z ▸ m)) e⟩, List.prefix_refl _⟩
theorem upd_newr {p : Addr} {o : HO} (hp : p ∈ pl.hs ∨ p ∈ pl.cs) : ∀ a u, New fm pl a → H a = some u → New fm pl a ∧ upd H p o a = some u := fun a u h e => ⟨h, upd_keep (fun z => hp.elim (fun m => h.2.1 (z ▸ m)) fun m => h.2.2 (z ▸ m)) e⟩
theorem EnvOk.exW (E : EnvOk G fm pl env ks σ H) {p : Addr} {o : HO} (hp : p ∈ pl.hs ∨ p ∈ pl.cs) : ∀ a u, a ∉ fm.ms → fm.H0 a = some u → upd H p o a = some u := fun a u n h => by
  refine upd_keep (fun z => ?_) (E.ex a u n h)
  subst z
  rcases hp with m | m
  · rcases (E.hn a m).1 with z | z
    · exact n z.1
    · rw [h] at z; cases z
  · rcases (E.cn a m).1 with z | z
    · exact n (E.c0 a z)
    · rw [h] at z; cases z
/-- a hot object that no slot holds is written -/
theorem EnvOk.write (E : EnvOk G fm pl env ks σ H) {p : Addr} {o : HO} (hp : p ∈ pl.hs)
    (nd : ∀ (i : Nat) s, env.sl[i]? = some s → isHot s → σ[i]? ≠ some (some (.ref p))) (no : NT o := by intro _ z; cases z) : EnvOk G fm pl env ks σ (upd H p o) where
  ex := E.exW (.inl hp)
  dom := fun a h => upd_dom (E.dom a h)
  tA := E.tA
  len := E.len
  bor := E.bor
  c0 := E.c0
  mup := E.mup
  ms0 := E.ms0
  msh := E.msh
  hn := fun a m => ⟨(E.hn a m).1, upd_lv no (E.hn a m).2⟩
  cn := fun a m => ⟨(E.cn a m).1, upd_lv no (E.cn a m).2.1, (E.cn a m).2.2⟩
  mem := E.mem.sub (upd_cold (.inl hp)) rfl fun a m o e => upd_keep (fun z => (E.cn a m).2.2 (z ▸ hp)) e
  slot := fun i s q => by
    have sl := E.slot i s q
    cases s with
    | no => trivial
    | cold d =>
      obtain ⟨v, a, b⟩ := sl
      exact ⟨v, a, b.sub (upd_cold (.inl hp))⟩
    | hot d =>
      obtain ⟨q', a, b, n, k⟩ := sl
      have nq : q' ≠ p := fun z => nd i _ q trivial (z ▸ a)
      exact ⟨q', a, b, n, k.sub (upd_cold (.inl hp)) fun o e => upd_keep nq e⟩
    | slf c ds =>
      obtain ⟨q', a, b, n, k⟩ := sl
      have nq : q' ≠ p := fun z => nd i _ q trivial (z ▸ a)
      exact ⟨q', a, b, n, k.sub (upd_cold (.inl hp)) fun o e => upd_keep nq e⟩
    | bor d =>
      obtain ⟨v, a, b⟩ := sl
      exact ⟨v, a, b.sub ⟨fun a o h e => ⟨h, upd_keep (fun z => E.notBor (.inl hp) (z ▸ h)) e⟩, List.prefix_refl _⟩⟩
    | exn k fs =>
      obtain ⟨a, cls, dd, b, c, r⟩ := sl
      exact ⟨a, cls, dd, b, c, r.sub (upd_cold (.inl hp)) (upd_newr (.inl hp))⟩
  inj := E.inj
  fr := fun k m => (E.fr k m).sub (upd_cold (.inl hp))
end
section
variable {X : Cx} {W : WX} {G : Cfg} {elt tg iter : Expr} {ifs : List Expr} {scope : Scope} {own : List (Str × Nat)} {pos : Pos} {ev : Q.XI} {p : Pat} {tt : Q.XB} {te : Q.X}
/-- nothing is let out of a block -/
def noW : WX := fun _ _ _ _ => False
/-- the places without the list that is being made -/
def Pl.at (pl : Pl) (hs : List Addr) : Pl := ⟨hs, pl.cs, pl.mu⟩
theorem unhide_sub {fm : Fm} {pl : Pl} {D : Addr} {hs : List Addr} {H : Hp} (h : pl.hs = D :: hs) : Sub (Cold fm pl) H ((Cold fm (pl.at hs)).but D) H := ⟨fun a o x e => ⟨⟨⟨x.1, fun m => x.2.1 (by rw [h]; exact List.mem_cons_of_mem _ m), x.2.2⟩, fun z => x.2.1 (by rw [h, z]; exact List.mem_cons_self)⟩, e⟩, List.prefix_refl _⟩
theorem ext_wm {fm : Fm} {pl pl' : Pl} {env : Q.Env} {ks ks' : List (V × D)} {σ σ' : L2.St} {H H' : Hp} {e' : Q.Env} (E : EnvOk G fm pl env ks σ H) (s : Ext pl H pl' H') (E' : EnvOk G fm pl' e' ks' σ' H') : EnvOk G fm pl' (env.wm e'.mem) ks σ H' :=
  E.ext s (fun a m => (E'.cn a m).2.1) E'.mem
theorem lc_readsL {vs : List Nat} {σ : L2.St} {H : Hp} {P : VK} (hsub : ∀ i ∈ Pat.slots p, i ∈ vs) (h : tE G W (Q.lc vs ev p tt te) σ H P) : tLc (tL G ev) (tG G p) (tT G noW tt) (tE G noW te) vs σ H P := by
  obtain ⟨fm, pl, env, E, acc⟩ := h
  have acc : AccR G W fm pl env σ H (Q.lcS vs p tt te env (ev env)) fun _ _ _ _ v H' => P v H' := acc
  refine ⟨fm, pl, env, E, ?_⟩
  cases q : ev env with
  | exc k fs m => rw [q] at acc; exact acc.elim
  | bad => rw [q] at acc; exact acc.elim
  | ok ds t m0 =>
    rw [q] at acc
    have acc : AccR G W fm pl env σ H (Q.lcT (Q.lcLoop p tt te (Q.wipeE env vs) ds m0 [])) fun _ _ _ _ v H' => P v H' := acc
    intro pl1 J src H1 E1 s1 hsrc ok D hD
    cases q2 : Q.lcLoop p tt te (Q.wipeE env vs) ds m0 [] with
    | none => rw [q2] at acc; exact acc.elim
    | some yy =>
      obtain ⟨ys, mf⟩ := yy
      rw [q2] at acc
      have acc : ∀ pl' v H', EnvOk G fm pl' (env.wm mf) [] σ H' → Ext pl H pl' H' → FOk G fm pl' mf H H' v (.lst ys) .fresh → P v H' := acc
      have nd : ∀ (i : Nat) s, (Q.wipeE env vs).sl[i]? = some s → isHot s → (wipe σ vs)[i]? ≠ some (some (.ref D)) := fun i s h1 h2 h3 => by
        have sl := (E1.wipe vs).slot i s h1
        cases s with
        | hot d =>
          obtain ⟨q, a, b, n, c⟩ := sl
          rw [h3] at a
          cases a
          exact E1.newHs hD b
        | slf k ds =>
          obtain ⟨q, a, b, n, c⟩ := sl
          rw [h3] at a
          cases a
          exact E1.newHs hD b
        | _ => exact h2
      refine ⟨fun i m H' => i + m = ds.length ∧ ∃ pl' μ vacc dacc, pl'.hs = D :: pl1.hs ∧ EnvOk G fm pl' ((Q.wipeE env vs).wm μ) src (wipe σ vs) H' ∧ Ext pl1 H1 (pl'.at pl1.hs) H' ∧ H' D = some (.lst vacc) ∧ Reps G (Cold fm pl') H' vacc dacc ∧
        Q.lcLoop p tt te (Q.wipeE env vs) (ds.drop i) μ dacc = some (ys, mf), ⟨ds.length, by omega, pl1.addH D, m0, [], [], rfl, ?_, ext_new hD, upd_same, Reps.nil, by simpa using q2⟩, ?_⟩
      · have E2 : EnvOk G fm pl1 ((Q.wipeE env vs).wm m0) src (wipe σ vs) H1 := { E1.wipe vs with fr := hsrc }
        exact E2.hide hD
      · rintro i m H' ⟨him, pl', μ, vacc, dacc, hh, E', s', hDv, rr, hl⟩
        have hDh : D ∈ pl'.hs := by rw [hh]; exact List.mem_cons_self
        have sc : Sub (Cold fm pl1) H1 (Cold fm pl') H' := ⟨fun a o h e => ⟨⟨h.1, fun m => by
          rw [hh] at m
          rcases List.mem_cons.mp m with z | m
          · rw [z, hD] at e; cases e
          · exact h.2.1 m, fun m => (s'.cs a m).elim h.2.2 fun z => by rw [z] at e; cases e⟩, s'.keep a o e h.2.2⟩, s'.mu⟩
        obtain ⟨o1, o2, o3⟩ := ok pl' H' i (fun a o e n => s'.keep a o e n) sc E'.fr
        by_cases hi : i < ds.length
        · right
          refine ⟨o1 hi, fun H'' => ∃ m', m' < m ∧ (i + 1) + m' = ds.length ∧ ∃ pl' μ vacc dacc, pl'.hs = D :: pl1.hs ∧ EnvOk G fm pl' ((Q.wipeE env vs).wm μ) src (wipe σ vs) H'' ∧ Ext pl1 H1 (pl'.at pl1.hs) H'' ∧ H'' D = some (.lst vacc) ∧ Reps G (Cold fm pl') H'' vacc dacc ∧
            Q.lcLoop p tt te (Q.wipeE env vs) (ds.drop (i + 1)) μ dacc = some (ys, mf), fun H'' h => ?_, fun x H2 y => ?_⟩
          · obtain ⟨m', a, b, c⟩ := h
            exact ⟨m', a, b, c⟩
          · obtain ⟨s2, rx⟩ := o3 x H2 _ y (List.getElem?_eq_getElem hi)
            have E2 := E'.later s2
            have rx' : Rep G (Cold fm pl') H2 x ds[i] := rx.sub ⟨fun a o h e => ⟨h.elim id fun h => E'.newCold h, e⟩, List.prefix_refl _⟩
            rw [List.drop_eq_getElem_cons hi, Q.lcLoop] at hl
            unfold Q.lcTurn at hl
            cases q3 : p.put ds[i] ((Q.wipeE env vs).wm μ) with
            | none => rw [q3] at hl; cases hl
            | some e1 =>
              rw [q3] at hl
              have hl : (match Q.l2S te e1 (tt e1) with
                | some (some y, m') => if dacc.length < Q.most then Q.lcLoop p tt te (Q.wipeE env vs) (ds.drop (i + 1)) m' (dacc ++ [y]) else none
                | some (none, m') => Q.lcLoop p tt te (Q.wipeE env vs) (ds.drop (i + 1)) m' dacc
                | none => none) = some (ys, mf) := hl
              refine ⟨fm, pl', _, src, ds[i], e1, E2, rx', q3, fun σ2 E3 kp => ⟨wipe_keeps kp hsub, ?_⟩⟩
              have back : ∀ {pl3 : Pl} {H3 : Hp} {μ3 : Mem}, EnvOk G fm pl3 (e1.wm μ3) [] σ2 H3 → Ext pl' H2 pl3 H3 → EnvOk G fm pl3 ((Q.wipeE env vs).wm μ3) src (wipe σ vs) H3 := fun {pl3 H3 μ3} E4 s4 => by
                have z := ext_wm (e' := e1.wm μ3) E2 s4 E4
                exact z
              have outer : ∀ {pl3 : Pl} {H3 : Hp}, Ext pl' H2 pl3 H3 → Ext pl1 H1 (pl3.at pl1.hs) H3 := fun {pl3 H3} s4 => ⟨fun a o e n => s4.keep a o (s2 a o (s'.keep a o e n)) fun m => (s'.cs a m).elim n (fun z => by rw [z] at e; cases e),
                fun a h => s4.dom a (dom_same s2 a (s'.dom a h)), rfl, fun a m => (s4.cs a m).elim (fun m => s'.cs a m) fun z => .inr (s'.free ((ext_same (pl := pl') s2).free z)), s'.mu.trans s4.mu⟩
              cases q4 : tt e1 with
              | exc k fs m => simp only [q4] at hl; cases hl
              | bad => simp only [q4] at hl; cases hl
              | ok b m3 =>
                simp only [q4] at hl
                refine ⟨fm, pl', e1, E3.drop, ?_⟩
                rw [q4]
                intro pl3 H3 E4 s3
                cases b with
                | false =>
                  rw [if_neg (by simp)]
                  have E5 := back E4 s3
                  have hl : Q.lcLoop p tt te (Q.wipeE env vs) (ds.drop (i + 1)) m3 dacc = some (ys, mf) := hl
                  exact ⟨m - 1, by omega, by omega, pl3, m3, vacc, dacc, s3.hs.trans hh, E5, outer s3, s3.keep _ _ (s2 _ _ hDv) (fun m => (E'.cn D m).2.2 hDh), (rr.sub (ext_same s2).cold).sub s3.cold, hl⟩
                | true =>
                  rw [if_pos rfl]
                  have hl : (match Q.l3S (te (e1.wm m3)) with
                    | some (some y, m') => if dacc.length < Q.most then Q.lcLoop p tt te (Q.wipeE env vs) (ds.drop (i + 1)) m' (dacc ++ [y]) else none
                    | some (none, m') => Q.lcLoop p tt te (Q.wipeE env vs) (ds.drop (i + 1)) m' dacc
                    | none => none) = some (ys, mf) := hl
                  refine ⟨fm, pl3, e1.wm m3, E4, ?_⟩
                  cases q5 : te (e1.wm m3) with
                  | exc k fs m => simp only [q5] at hl; cases hl
                  | bad => simp only [q5] at hl; cases hl
                  | ok y c m4 =>
                    simp only [q5] at hl
                    intro pl4 v H4 E5 s4 o4
                    have s34 := s3.trans s4
                    by_cases hd : Q.dirty c y = true
                    · have hl : (match (if Q.dirty c y = true then none else some (some y, m4) : Option (Option Q.D × Mem)) with
                        | some (some y, m') => if dacc.length < Q.most then Q.lcLoop p tt te (Q.wipeE env vs) (ds.drop (i + 1)) m' (dacc ++ [y]) else none
                        | some (none, m') => Q.lcLoop p tt te (Q.wipeE env vs) (ds.drop (i + 1)) m' dacc
                        | none => none) = some (ys, mf) := hl
                      rw [if_pos hd] at hl
                      cases hl
                    · have hl : (match (if Q.dirty c y = true then none else some (some y, m4) : Option (Option Q.D × Mem)) with
                        | some (some y, m') => if dacc.length < Q.most then Q.lcLoop p tt te (Q.wipeE env vs) (ds.drop (i + 1)) m' (dacc ++ [y]) else none
                        | some (none, m') => Q.lcLoop p tt te (Q.wipeE env vs) (ds.drop (i + 1)) m' dacc
                        | none => none) = some (ys, mf) := hl
                      rw [if_neg hd] at hl
                      have hl : (if dacc.length < Q.most then Q.lcLoop p tt te (Q.wipeE env vs) (ds.drop (i + 1)) m4 (dacc ++ [y]) else none) = some (ys, mf) := hl
                      have hd' : Q.dirty c y = false := by simpa using hd
                      have ry := o4.clean hd'
                      by_cases hm : dacc.length < Q.most
                      · rw [if_pos hm] at hl
                        have e4 : H4 D = some (.lst vacc) := s34.keep _ _ (s2 _ _ hDv) fun m => (E'.cn D m).2.2 hDh
                        have hh4 : pl4.hs = D :: pl1.hs := s34.hs.trans hh
                        have hD4 : D ∈ pl4.hs := by rw [hh4]; exact List.mem_cons_self
                        refine ⟨vacc, e4, most_lt (by rw [rr.1]; exact hm), m - 1, by omega, by omega, pl4, m4, vacc ++ [v], dacc ++ [y], hh4, ?_, ?_, upd_same, ?_, hl⟩
                        · exact (back (μ3 := m4) E5 s34).write hD4 nd
                        · have so := outer s34
                          refine ⟨fun a o e n => upd_keep (fun z => by rw [z, hD] at e; cases e) (so.keep a o e n), fun a h => upd_dom (so.dom a h), so.hs, so.cs, so.mu⟩
                        · have r4 := (rr.sub (ext_same s2).cold).sub s34.cold
                          exact (r4.append (Reps.cons ry Reps.nil)).sub (upd_cold (.inl hD4))
                      · rw [if_neg hm] at hl; cases hl
        · left
          have hi' : i = ds.length := by omega
          rw [hi', List.drop_length, Q.lcLoop] at hl
          cases hl
          have E2 : EnvOk G fm (pl'.at pl1.hs) (env.wm mf) [] σ H' := by
            refine E1.ext (m := mf) s' (fun a m => (E'.cn a m).2.1) ?_
            exact E'.mem.sub ((unhide_sub hh).trans but_sub) rfl fun a _ o e => e
          refine ⟨o2 hi', acc (pl'.at pl1.hs) _ _ E2 (s1.trans s') ⟨D, rfl, s1.free hD, ?_, ⟨vacc, hDv, rr.sub (unhide_sub hh)⟩, E'.mem.sub (unhide_sub hh) rfl fun a _ o e => e⟩⟩
          exact ⟨.inr (.inl (E1.newH0 hD)), E1.newHs hD, fun m => (E'.cn D m).2.2 hDh⟩
theorem lc_reads {vs : List Nat} {σ : L2.St} {H : Hp} {P : VK} (hsub : ∀ i ∈ Pat.slots p, i ∈ vs) (h : tE G W (Q.lc vs ev p tt te) σ H P) : tLc (tI G ev) (tG G p) (tT G noW tt) (tE G noW te) vs σ H P := tL_tI (lc_readsL hsub h)
end
section
variable {X : Cx} {W : WX} {G : Cfg} {elt tg iter : Expr} {ifs : List Expr} {scope : Scope} {own : List (Str × Nat)} {pos spos py : Pos} {ev : Q.XI} {p : Pat} {tt : Q.XB} {te : Q.X} {vs : List Nat}
theorem q_ptsnil : PTs X [] (tT G W Q.tyes) := ⟨fun pins s σ H P I ⟨fm, pl, env, E, acc⟩ => pts_nil.run pins s σ H P I (acc pl H E (Ext.refl _))⟩
theorem q_lc (hc : X.calm = true) (hN : X.N.Nodup) (hi : PI X tg iter (tI G ev)) (ok : BlkOk X.N X.env.scope scope own)
    (hg : ∀ (s : Shared) (H : Hp) (C : Addr) (cl : List (Str × Addr)) (fp : List Addr), PG (X.blk s H scope (compEnvC scope cl C X.env) fp) tg (tG G p))
    (ht : ∀ (s : Shared) (H : Hp) (C : Addr) (cl : List (Str × Addr)) (fp : List Addr), PTs (X.blk s H scope (compEnvC scope cl C X.env) fp) ifs (tT G noW tt))
    (he : ∀ (s : Shared) (H : Hp) (C : Addr) (cl : List (Str × Addr)) (fp : List Addr), PE (X.blk s H scope (compEnvC scope cl C X.env) fp) elt (tE G noW te))
    (hvs : own.map (·.2) = vs := by rfl) (hsub : ∀ i ∈ Pat.slots p, i ∈ vs := by decide) (hs : ∀ x, foldedSetIterable iter X.env x = pure x := by intro _; rfl) :
    PE X (.ListComp elt [⟨tg, iter, ifs, 0⟩] scope pos) (tE G W (Q.lc vs ev p tt te)) := by
  subst hvs
  exact (pe_lc hc hN hi ok hg ht he hs).conv fun σ H P h => lc_reads hsub h
theorem q_lcL (hc : X.calm = true) (hN : X.N.Nodup) (hi : PI X tg iter (tL G ev)) (ok : BlkOk X.N X.env.scope scope own)
    (hg : ∀ (s : Shared) (H : Hp) (C : Addr) (cl : List (Str × Addr)) (fp : List Addr), PG (X.blk s H scope (compEnvC scope cl C X.env) fp) tg (tG G p))
    (ht : ∀ (s : Shared) (H : Hp) (C : Addr) (cl : List (Str × Addr)) (fp : List Addr), PTs (X.blk s H scope (compEnvC scope cl C X.env) fp) ifs (tT G noW tt))
    (he : ∀ (s : Shared) (H : Hp) (C : Addr) (cl : List (Str × Addr)) (fp : List Addr), PE (X.blk s H scope (compEnvC scope cl C X.env) fp) elt (tE G noW te))
    (hvs : own.map (·.2) = vs := by rfl) (hsub : ∀ i ∈ Pat.slots p, i ∈ vs := by decide) (hs : ∀ x, foldedSetIterable iter X.env x = pure x := by intro _; rfl) :
    PE X (.ListComp elt [⟨tg, iter, ifs, 0⟩] scope pos) (tE G W (Q.lc vs ev p tt te)) := by
  subst hvs
  exact (pe_lc hc hN hi ok hg ht he hs).conv fun σ H P h => lc_readsL hsub h
end
end QW

set_option Elab.async false
set_option linter.all false
set_option maxRecDepth 100000
set_option maxHeartbeats 4000000
namespace QW
open PySem PySem.Spec PyProof.Rows L2
open Q (D S R RA RB Ctl Cl Pat Mem)
/-! ### calls -/
/-- what is cold behind a call -/
def outR (A : Reg) (H : Hp) (cs cs' mu' : List Addr) : Reg := ⟨fun a => ((A.p a ∨ TupH H a) ∨ H a = none ∨ a ∈ cs) ∧ a ∉ cs', mu'⟩
def newR (H : Hp) (cs' : List Addr) : Addr → Prop := fun a => H a = none ∧ a ∉ cs'
structure World (G : Cfg) (A : Reg) (H : Hp) (cs : List Addr) (m : Mem) : Prop where
  mem : MemOk G A cs H m
  cs : ∀ a ∈ cs, ¬ A.p a ∧ Lv H a
structure After (x : Option Addr) (mu : List Addr) (cs : List Addr) (H : Hp) (cs' mu' : List Addr) (H' : Hp) : Prop where
  keep : ∀ a o, H a = some o → a ∉ cs → some a ≠ x → H' a = some o
  dom : ∀ a, H a ≠ none → H' a ≠ none
  cs : ∀ a ∈ cs', a ∈ cs ∨ H a = none
  live : ∀ a ∈ cs', Lv H' a
  mu : mu <+: mu'
def RtOk (G : Cfg) (A : Reg) (H : Hp) (cs cs' mu' : List Addr) (m' : Mem) (H' : Hp) (v : V) (d : D) : Cl → Prop
  | .fresh => ∃ p, v = .ref p ∧ H p = none ∧ p ∉ cs' ∧ Con G ((outR A H cs cs' mu').but p) H' p d ∧ MemOk G ((outR A H cs cs' mu').but p) cs' H' m'
  | _ => Rep G (outR A H cs cs' mu') H' v d
/-- the promise of a def that comes to g -/
def spF (G : Cfg) (n : Nat) (g : Q.F) : Sp := fun vs H P E => ∃ (A : Reg) (cs : List Addr) (m : Mem) (ds : List D), vs.length = n ∧ World G A H cs m ∧ Reps G A H vs ds ∧ (match g ds m with
  | .ok d c m' => ∀ v H' cs' mu', After none A.mu cs H cs' mu' H' → MemOk G (outR A H cs cs' mu') cs' H' m' → RtOk G A H cs cs' mu' m' H' v d c → P v H'
  | .exc k fs m' => ∀ cls dd H' cs' mu', After none A.mu cs H cs' mu' H' → MemOk G (outR A H cs cs' mu') cs' H' m' → RepX G (outR A H cs cs' mu') (newR H cs') H' cls dd k fs → E cls dd H'
  | .bad => False)
def Reg.kept (A : Reg) (keep : Bool) : Reg := ⟨fun a => keep = true ∧ A.p a, A.mu⟩
/-- .. of an __init__ of the class c; keep: whether arguments may be kept -/
def spI (G : Cfg) (c n : Nat) (keep : Bool) (g : Q.F) : Sp := fun vs H P E => ∃ (x dx : Addr) (ws : List V) (A : Reg) (cs : List Addr) (m : Mem) (ds : List D), vs = .ref x :: ws ∧ ws.length = n ∧ H x = some (.ins (G.cls c) dx []) ∧ ¬ A.p x ∧ x ∉ cs ∧ (∀ a, A.p a → H a ≠ none) ∧ World G (A.kept keep) H cs m ∧ (∀ a ∈ cs, ¬ A.p a) ∧ Reps G A H ws ds ∧ (match g ds m with
  | .ok d _ m' => ∃ fs, d = .obj c fs ∧ ∀ H' cs' mu', After (some x) A.mu cs H cs' mu' H' → MemOk G ((outR (A.kept keep) H cs cs' mu').but x) cs' H' m' → Con G ((outR (A.kept keep) H cs cs' mu').but x) H' x d → P .non H'
  | .exc k fs m' => ∀ cls dd H' cs' mu', After (some x) A.mu cs H cs' mu' H' → MemOk G ((outR (A.kept keep) H cs cs' mu').but x) cs' H' m' → RepX G ((outR A H cs cs' mu').but x) (newR H cs') H' cls dd k fs → E cls dd H'
  | .bad => False)
theorem spF_len {G : Cfg} {n : Nat} {g : Q.F} {vs : List V} {H : Hp} {P : VK} {E : XK} (h : spF G n g vs H P E) : vs.length = n := by
  obtain ⟨_, _, _, _, h, _⟩ := h
  exact h
theorem spI_len {G : Cfg} {c n : Nat} {keep : Bool} {g : Q.F} {vs : List V} {H : Hp} {P : VK} {E : XK} (h : spI G c n keep g vs H P E) : vs.length = n + 1 := by
  obtain ⟨_, _, _, _, _, _, _, rfl, h, _⟩ := h
  rw [List.length_cons, h]
section
variable {G : Cfg} {W : WX} {fm : Fm} {pl : Pl} {env : Q.Env} {ks : List (V × D)} {σ : L2.St} {H H' : Hp} {vs : List V} {ds : List D} {t : Bool} {m : Mem}
theorem RepX.scalars {A B : Reg} {N N' : Addr → Prop} {cls : Value} {dd : Option Addr} {k : Nat} {fs : List D} (h : RepX G A N H cls dd k fs) (s : fs.all Q.D.scalar = true) (n : ∀ a, N a → N' a) : RepX G B N' H cls dd k fs := by
  obtain ⟨e, h⟩ := h
  refine ⟨e, ?_⟩
  rcases h with h | ⟨h0, a, fvs, h1, hn, h2, h3⟩
  · exact .inl h
  · refine .inr ⟨h0, a, fvs, h1, n _ hn, h2, fun i f d q r => ?_⟩
    obtain ⟨v, x, y⟩ := h3 i f d q r
    exact ⟨v, x, y.scalar (List.all_eq_true.mp s d (List.mem_of_getElem? r))⟩
theorem new_out {cs' mu' : List Addr} (E : EnvOk G fm pl env ks σ H) : ∀ a, newR H cs' a → New fm ⟨pl.hs, cs', mu'⟩ a := fun a h => ⟨E.newH0 h.1, E.newHs h.1, h.2⟩
/-- the places behind a call -/
theorem after_ext {cs' mu' : List Addr} (F : After none pl.mu pl.cs H cs' mu' H') : Ext pl H ⟨pl.hs, cs', mu'⟩ H' := ⟨fun a o e n => F.keep a o e n (fun z => by cases z), F.dom, rfl, F.cs, F.mu⟩
theorem out_cold {cs' mu' : List Addr} (E : EnvOk G fm pl env ks σ H) : Sub (outR (Cold fm pl) H pl.cs cs' mu') H' (Cold fm ⟨pl.hs, cs', mu'⟩) H' := ⟨fun a o h e => ⟨by
  rcases h.1 with (h1 | h1) | h1 | h1
  · exact ⟨h1.1, h1.2.1, h.2⟩
  · have c := E.tup (H := H) h1; exact ⟨c.1, c.2.1, h.2⟩
  · exact ⟨.inr (.inl (E.newH0 h1)), E.newHs h1, h.2⟩
  · exact ⟨(E.cn a h1).1.elim (fun z => .inr (.inr z)) fun z => .inr (.inl z), (E.cn a h1).2.2, h.2⟩, e⟩, List.prefix_refl _⟩
theorem Sub.but {A B : Reg} {p : Addr} (s : Sub A H B H') : Sub (A.but p) H (B.but p) H' := ⟨fun a o h e => ⟨⟨(s.go a o h.1 e).1, h.2⟩, (s.go a o h.1 e).2⟩, s.mu⟩
theorem MemOk.wider {A B : Reg} {cs : List Addr} (M : MemOk G A cs H m) (s : Sub A H B H) (hl : B.mu = A.mu) : MemOk G B cs H m := M.sub s hl fun _ _ _ e => e
theorem dead_ok {A : Reg} (hl : A.mu.length = m.length) : MemOk G A [] H (Q.dead m) where
  len := by unfold Q.dead; rw [List.length_replicate]; exact hl
  cell := fun n d e => by
    unfold Q.dead at e
    rw [List.getElem?_replicate] at e
    split at e <;> cases e
  inj := fun n k d e p a => by
    unfold Q.dead at a
    rw [List.getElem?_replicate] at a
    split at a <;> cases a
theorem pre_eq {α : Type} {l m : List α} (h : l <+: m) (e : m.length = l.length) : m = l := by
  obtain ⟨t, rfl⟩ := h
  rw [List.length_append] at e
  have : t = [] := List.length_eq_zero_iff.mp (by omega)
  rw [this, List.append_nil]
/-- a call's place -/
theorem spF_of {n : Nat} {g : Q.F} {P : VK} (E : EnvOk G fm pl (env.wm m) ks σ H) (r : Reps G (ArgR fm pl t) H vs ds)
    (acc : AccR G W fm pl (env.wm m) σ H (if ds.length = n then Q.run t g ds m else .bad) fun _ _ _ _ v H' => P v H') : spF G n g vs H P (fun cls d H' => W cls d σ H') := by
  by_cases hn : ds.length = n
  · rw [if_pos hn] at acc
    cases t with
    | false =>
      have acc : AccR G W fm pl (env.wm m) σ H (Q.back (g ds m)) fun _ _ _ _ v H' => P v H' := acc
      refine ⟨Cold fm pl, pl.cs, m, ds, by rw [r.1]; exact hn, ⟨E.mem, fun a h => ⟨fun z => z.2.2 h, (E.cn a h).2.1⟩⟩, r, ?_⟩
      have env' : ∀ {cs' mu' : List Addr} {H' : Hp} {m' : Mem}, After none pl.mu pl.cs H cs' mu' H' → MemOk G (outR (Cold fm pl) H pl.cs cs' mu') cs' H' m' → EnvOk G fm ⟨pl.hs, cs', mu'⟩ (env.wm m') ks σ H' := fun {cs' mu' H' m'} F M =>
        E.ext (m := m') (after_ext F) F.live (M.wider (out_cold E) rfl)
      cases q : g ds m with
      | ok d c m' =>
        rw [q] at acc
        intro v H' cs' mu' F M k
        refine acc ⟨pl.hs, cs', mu'⟩ v H' (env' F M).drop (after_ext F) ?_
        cases c with
        | fresh =>
          obtain ⟨p, a, b, e, c, d⟩ := k
          exact ⟨p, a, b, ⟨.inr (.inl (E.newH0 b)), E.newHs b, e⟩, c.sub (out_cold E).but fun o q => q, d.wider (out_cold E).but rfl⟩
        | cold => exact Rep.sub k (out_cold E)
        | hot => exact Rep.sub k (out_cold E)
        | taint => exact Rep.sub k (out_cold E)
      | exc kk fs m' =>
        rw [q] at acc
        intro cls dd H' cs' mu' F M x
        exact acc ⟨pl.hs, cs', mu'⟩ cls dd H' (env' F M).drop (after_ext F) (x.sub (out_cold E) fun a o h e => ⟨new_out E a h, e⟩)
      | bad => rw [q] at acc; exact acc
    | true =>
      have acc : AccR G W fm pl (env.wm m) σ H (Q.lent m (g ds (Q.dead m))) fun _ _ _ _ v H' => P v H' := acc
      refine ⟨TR fm pl, [], Q.dead m, ds, by rw [r.1]; exact hn, ⟨dead_ok E.mem.len, fun a h => by simp at h⟩, r, ?_⟩
      have same : ∀ {cs' mu' : List Addr} {H' : Hp}, After none pl.mu [] H cs' mu' H' → Same H H' := fun F a o e => F.keep a o e (by simp) fun z => by cases z
      have muE : ∀ {cs' mu' : List Addr} {H' : Hp} {m' : Mem}, After none pl.mu [] H cs' mu' H' → MemOk G (outR (TR fm pl) H [] cs' mu') cs' H' m' → m'.length = m.length → mu' = pl.mu := fun {cs' mu' H' m'} F M h => pre_eq F.mu (by
        have h1 : mu'.length = m'.length := M.len
        have h2 : pl.mu.length = m.length := E.mem.len
        omega)
      have out : ∀ {cs' mu' : List Addr} {H' : Hp}, mu' = pl.mu → Sub (outR (TR fm pl) H [] cs' mu') H' (TR fm pl) H' := fun {cs' mu' H'} e => ⟨fun a o h q => ⟨by
        rcases h.1 with (h1 | h1) | h1 | h1
        · exact h1
        · have c := E.tup (H := H) h1; exact ⟨.inl c.1, c.2.2⟩
        · exact E.newTR h1
        · simp at h1, q⟩, by subst e; exact List.prefix_refl _⟩
      cases q : g ds (Q.dead m) with
      | ok d c m' =>
        rw [q] at acc
        have acc : AccR G W fm pl (env.wm m) σ H (if m'.length = m.length then .ok d (Q.post d c) m else .bad) fun _ _ _ _ v H' => P v H' := acc
        by_cases hl : m'.length = m.length
        · rw [if_pos hl] at acc
          intro v H' cs' mu' F M k
          have hm := muE F M hl
          refine acc pl v H' (E.later (same F)).drop (ext_same (same F)) ?_
          have other : Rep G (outR (TR fm pl) H [] cs' mu') H' v d → FOk G fm pl m H H' v d (if d.scalar = true then .cold else .taint) := fun r => by
            by_cases s : d.scalar = true
            · rw [if_pos s]; exact Rep.scalar r s
            · rw [if_neg s]; exact Rep.sub r (out hm)
          cases c with
          | fresh =>
            show FOk G fm pl m H H' v d (if d.flat = true then .fresh else .taint)
            obtain ⟨p, rfl, b, e, k, M2⟩ := k
            by_cases f : d.flat = true
            · rw [if_pos f]
              refine ⟨p, rfl, b, E.newCold b, ?_, E.mem.sub ⟨fun a o h e => ⟨⟨h, fun z => by rw [z, b] at e; cases e⟩, same F a o e⟩, List.prefix_refl _⟩ rfl fun a _ o e => same F a o e⟩
              cases d with
              | lst xs => obtain ⟨vs, a, r⟩ := k; exact ⟨vs, a, r.scalars f⟩
              | _ => first | exact k.elim | simp [Q.D.flat, Q.D.scalar] at f
            · rw [if_neg f]
              exact (k.sub ((out hm).but.trans but_sub) fun o q => q).rep (E.newTR b)
          | cold => exact other k
          | hot => exact other k
          | taint => exact other k
        · rw [if_neg hl] at acc; exact acc.elim
      | exc kk fs m' =>
        rw [q] at acc
        have acc : AccR G W fm pl (env.wm m) σ H (if m'.length = m.length ∧ fs.all Q.D.scalar = true then .exc kk fs m else .bad) fun _ _ _ _ v H' => P v H' := acc
        by_cases hl : m'.length = m.length ∧ fs.all Q.D.scalar = true
        · rw [if_pos hl] at acc
          intro cls dd H' cs' mu' F M x
          exact acc pl cls dd H' (E.later (same F)).drop (ext_same (same F)) (x.scalars hl.2 fun a h => E.newNew h.1)
        · rw [if_neg hl] at acc; exact acc.elim
      | bad => rw [q] at acc; exact acc
  · rw [if_neg hn] at acc
    exact acc.elim
end
end QW

set_option Elab.async false
set_option linter.all false
set_option maxRecDepth 100000
set_option maxHeartbeats 4000000
namespace QW
open PySem PySem.Spec PyProof.Rows L2
open Q (D S R RA RB Ctl Cl Pat Mem)
section
variable {X : Cx} {W : WX} {G : Cfg} {k n : Nat} {f : Addr} {fd : FuncData} {ps : List Str} {g : Q.F} {x m : Str} {p pos apos : Pos} {e o : Expr} {es : List Expr} {ea : Q.XA} {eo : Q.X}
theorem q_call (F : FnOk X.prog X.w X.K X.mg X.base (L2.CX X.prog X.w) k f fd ps (spF G n g)) (hr : Room k X.A) (hm : X.mg x = some (.ref f)) (hk : PySem.W.keepIn X.K (.ref f) = true) (hb : Binds X.K fd ps []) (tk : Takes X W)
    (ha : PA X (e :: es) (tA G W ea)) (hg : Gl X x := by rfl) (hdb : (x == ("__debug__" : Str)) = false := by decide) (he : starEach (e :: es) X.env = (false, eval e X.env) :: starEach es X.env := by rfl) (hpl : (backTo pos (starEach es X.env)).any (·.1) = false := by rfl) :
    PE X (.Call (.Name x p) (e :: es) [] pos) (tE G W (Q.call n g ea)) :=
  (pe_callS F hr hg hm hk hb (fun σ => passAt tk σ) ha hdb he hpl).conv fun σ H P ⟨fm, pl, env, E, acc⟩ => tA_in E (accA_bind acc) fun pl1 ds t m1 vs H1 E1 s1 r1 acc1 => spF_of E1 r1 acc1
theorem reps_conV {dvs : List V} {dl : List D} (hdl : dl.map conV = dvs.map some) (A : Reg) (H : Hp) : Reps G A H dvs dl := by
  have hl : dl.length = dvs.length := by have := congrArg List.length hdl; simpa using this
  refine ⟨hl.symm, fun i v d a b => ?_⟩
  have e1 : (dl.map conV)[i]? = some (conV d) := by rw [List.getElem?_map, b]; rfl
  rw [hdl, List.getElem?_map, a] at e1
  exact conV_rep (Option.some.inj e1).symm
/-- with defaults behind -/
theorem q_callD {dvs : List V} {dl : List D} {us : List Value} (F : FnOk X.prog X.w X.K X.mg X.base (L2.CX X.prog X.w) k f fd ps (spF G n g)) (hr : Room k X.A) (hm : X.mg x = some (.ref f)) (hk : PySem.W.keepIn X.K (.ref f) = true) (hb : Binds X.K fd ps us) (hd : Vals dvs us) (hdl : dl.map conV = dvs.map some) (tk : Takes X W)
    (ha : PA X (e :: es) (tA G W ea)) (hg : Gl X x := by rfl) (hdb : (x == ("__debug__" : Str)) = false := by decide) (he : starEach (e :: es) X.env = (false, eval e X.env) :: starEach es X.env := by rfl) (hpl : (backTo pos (starEach es X.env)).any (·.1) = false := by rfl) :
    PE X (.Call (.Name x p) (e :: es) [] pos) (tE G W (Q.call (n - dl.length) (Q.dft n dl g) ea)) :=
  (pe_callSD F hr hg hm hk hb hd (fun σ => passAt tk σ) ha hdb he hpl).conv fun σ H P ⟨fm, pl, env, E, acc⟩ => tA_in E (accA_bind acc) fun pl1 ds t m1 vs H1 E1 s1 r1 acc1 => by
    by_cases hn : ds.length = n - dl.length
    · rw [if_pos hn] at acc1
      by_cases hn2 : dl.length ≤ n
      · refine spF_of (t := t) (ds := ds ++ dl) E1 (r1.append (reps_conV hdl _ _)) ?_
        rw [if_pos (by rw [List.length_append]; omega)]
        have e : ∀ μ, Q.dft n dl g ds μ = g (ds ++ dl) μ := fun μ => if_pos hn2
        unfold Q.run at acc1 ⊢
        rw [e, e] at acc1
        exact acc1
      · have e : ∀ μ, Q.dft n dl g ds μ = .bad := fun μ => if_neg hn2
        unfold Q.run at acc1
        rw [e, e] at acc1
        cases t <;> exact acc1.elim
    · rw [if_neg hn] at acc1
      exact acc1.elim
/-- o.m(..) of an instance of the class at C, what is raised wished for at the slots -/
def tMethW (C : Addr) (m : Str) (sp : Sp) (W : WX) (ta : TE) (t : TA) : TE := fun σ H P => ta σ H fun x H1 => ∃ a dx fs, x = .ref a ∧ H1 a = some (.ins C dx fs) ∧ fs.lookup m = none ∧
  t σ H1 fun vs H2 => sp (x :: vs) H2 P (fun cls d H' => W cls d σ H')
theorem pe_methW {C : Addr} {sp : Sp} {pl : Sem Bool} {ta : TE} {t : TA} (he : PE X o ta) (c : Cls X.K C) (hm : Meth X.K C m f) (F : FnOk X.prog X.w X.K X.mg X.base (L2.CX X.prog X.w) k f fd ps sp) (hr : Room k X.A) (hb : Binds X.K fd ps []) (tk : Takes X W) (ha : PA X (e :: es) t)
    (hst : starEach (e :: es) X.env = (false, eval e X.env) :: starEach es X.env) (hpl : (backTo pos (starEach es X.env)).any (·.1) = false)
    (ht : eval (.Call (.Attribute o m apos) (e :: es) [] pos) X.env = (eval o X.env >>= fun ov => standAt apos.atName >>= fun _ => holding [ov] (getMethod ov m pl) >>= fun x =>
      callWith pos x.1 x.2 (backTo pos (starEach (e :: es) X.env)) (backToKw pos (keywordEach [] X.env)))) :
    PE X (.Call (.Attribute o m apos) (e :: es) [] pos) (tMethW C m sp W ta t) := by
  refine ⟨fun pins s σ H P I h => PySem.W.methodCall_KW (pl := pl) (thn (he.run pins s σ H _ I h) fun u s1 hh => ?_) ht⟩
  obtain ⟨x, H1, I1, rx, a, dx, fs, rfl, ea, l, q⟩ := hh
  cases (show u = Value.ref a from rx)
  refine getmeth_ok I1 ea c hm l (PySem.W.callWith_K (first := [.ref a]) (h₀ := X.base) I.ok.mod.kin hm.kp (thn (ha.run pos pins s1 σ H1 _ I1 q) fun us s2 h2 => ?_) hst hpl)
  obtain ⟨vs, H2, I2, r, q2⟩ := h2
  exact ⟨I2.kIn, run_fnS (E := WE W) (us := .ref a :: us) (vs := .ref a :: vs) F hr hb (passAt tk σ) I2 (.cons rfl r) q2⟩
theorem pe_methW0 {C : Addr} {sp : Sp} {pl : Sem Bool} {ta : TE} (he : PE X o ta) (c : Cls X.K C) (hm : Meth X.K C m f) (F : FnOk X.prog X.w X.K X.mg X.base (L2.CX X.prog X.w) k f fd ps sp) (hr : Room k X.A) (hb : Binds X.K fd ps []) (tk : Takes X W)
    (ht : eval (.Call (.Attribute o m apos) [] [] pos) X.env = (eval o X.env >>= fun ov => standAt apos.atName >>= fun _ => holding [ov] (getMethod ov m pl) >>= fun x =>
      callWith pos x.1 x.2 (backTo pos (starEach [] X.env)) (backToKw pos (keywordEach [] X.env)))) :
    PE X (.Call (.Attribute o m apos) [] [] pos) (tMethW C m sp W ta tNil) := by
  refine ⟨fun pins s σ H P I h => PySem.W.methodCall_KW (pl := pl) (thn (he.run pins s σ H _ I h) fun u s1 hh => ?_) ht⟩
  obtain ⟨x, H1, I1, rx, a, dx, fs, rfl, ea, l, q⟩ := hh
  cases (show u = Value.ref a from rx)
  refine getmeth_ok I1 ea c hm l (PySem.W.callWith_K0 (first := [.ref a]) I1.kIn hm.kp ?_)
  exact run_fnS (E := WE W) (us := [.ref a]) (vs := [.ref a]) F hr hb (passAt tk σ) I1 (.cons rfl .nil) q
end
/-! ### the fields by their places -/
theorem zip_look : ∀ {ns : List Str} {vs : List V} {k : Nat} {f : Str} {v : V}, ns.Nodup → ns[k]? = some f → vs[k]? = some v → (ns.zip vs).lookup f = some v
  | [], _, _, _, _, _, h, _ => by simp at h
  | _ :: _, [], _, _, _, _, _, h => by simp at h
  | n :: ns, w :: vs, 0, f, v, _, h1, h2 => by
    simp at h1 h2
    subst h1 h2
    simp [List.lookup]
  | n :: ns, w :: vs, k + 1, f, v, hn, h1, h2 => by
    have h1' : ns[k]? = some f := by simpa using h1
    have h2' : vs[k]? = some v := by simpa using h2
    have hf : f ∈ ns := List.mem_of_getElem? h1'
    have hne : f ≠ n := fun e => (List.nodup_cons.mp hn).1 (e ▸ hf)
    have hb : (f == n) = false := by simpa using hne
    rw [List.zip_cons_cons, List.lookup, hb]
    exact zip_look (List.nodup_cons.mp hn).2 h1' h2'
theorem zip_none : ∀ {ns : List Str} {vs : List V} {f : Str}, f ∉ ns → (ns.zip vs).lookup f = none
  | [], _, _, _ => rfl
  | _ :: _, [], _, _ => rfl
  | n :: ns, w :: vs, f, h => by
    have hb : (f == n) = false := by simp at h; simpa using h.1
    rw [List.zip_cons_cons, List.lookup, hb]
    exact zip_none (by simp at h; exact h.2)
theorem putF_set : ∀ {ns : List Str} {vs : List V} {k : Nat} {f : Str} {v : V}, ns.Nodup → ns[k]? = some f → k < vs.length → putF f v (ns.zip vs) = ns.zip (vs.set k v)
  | [], _, _, _, _, _, h, _ => by simp at h
  | _ :: _, [], _, _, _, _, _, h => by simp at h
  | n :: ns, w :: vs, 0, f, v, _, h1, h2 => by
    simp at h1
    subst h1
    simp [putF]
  | n :: ns, w :: vs, k + 1, f, v, hn, h1, h2 => by
    have h1' : ns[k]? = some f := by simpa using h1
    have hne : n ≠ f := fun e => (List.nodup_cons.mp hn).1 (e ▸ List.mem_of_getElem? h1')
    rw [List.zip_cons_cons, putF, if_neg hne, putF_set (List.nodup_cons.mp hn).2 h1' (by simpa using h2), List.set_cons_succ, List.zip_cons_cons]
theorem putF_app : ∀ {ns : List Str} {vs : List V} {f : Str} {v : V}, ns.Nodup → ns[vs.length]? = some f → putF f v (ns.zip vs) = ns.zip (vs ++ [v])
  | [], _, _, _, _, h => by simp at h
  | n :: ns, [], f, v, _, h => by
    simp at h
    subst h
    simp [putF]
  | n :: ns, w :: vs, f, v, hn, h1 => by
    have h1' : ns[vs.length]? = some f := by simpa using h1
    have hne : n ≠ f := fun e => (List.nodup_cons.mp hn).1 (e ▸ List.mem_of_getElem? h1')
    rw [List.zip_cons_cons, putF, if_neg hne, putF_app (List.nodup_cons.mp hn).2 h1', List.cons_append, List.zip_cons_cons]
/-- what the text and K tell of the class with the tag c -/
structure ClsOk (G : Cfg) (c : Nat) : Prop where
  cl : Cls G.K (G.cls c)
  nd : (G.names c).Nodup
  no : ∀ f ∈ G.names c, NoAttr G.K (G.cls c) f
  few : (G.names c).length < 1000
section
variable {X : Cx} {W : WX} {G : Cfg} {k n c : Nat} {f : Addr} {fd : FuncData} {ps : List Str} {g : Q.F} {x m : Str} {p pos apos : Pos} {e o a b : Expr} {es : List Expr} {ea : Q.XA} {eo ex ey : Q.X}
theorem q_orx (ha : PE X a (tE G W ex)) (hb : PE X a (tE G W ey)) : PE X a (tE G W (Q.orx ex ey)) :=
  ⟨fun pins s σ H P I h => by
    obtain ⟨fm, pl, env, E, acc⟩ := h
    have e : Q.orx ex ey env = Q.orxS (ey env) (ex env) := rfl
    rw [e] at acc
    cases q : ex env with
    | bad => rw [q] at acc; exact hb.run pins s σ H P I ⟨fm, pl, env, E, acc⟩
    | ok d c m => rw [q] at acc; exact ha.run pins s σ H P I ⟨fm, pl, env, E, by rw [q]; exact acc⟩
    | exc k fs m => rw [q] at acc; exact ha.run pins s σ H P I ⟨fm, pl, env, E, by rw [q]; exact acc⟩⟩
theorem q_fld {i : Nat} {nm : Str} (hK : X.K = G.K) (C : ClsOk G c) (he : PE X o (tE G W eo)) (hi : (G.names c)[i]? = some nm := by rfl) (hb : attributeBase o nm X.env (eval o X.env) = eval o X.env := by rfl) :
    PE X (.Attribute o nm pos) (tE G W (Q.fld c i eo)) :=
  (pe_fld he hb).conv fun σ H P ⟨fm, pl, env, E, acc⟩ => tE_in E (acc_bind acc) fun pl1 d cl m1 v H1 E1 s1 o1 acc1 => by
    obtain ⟨d, c', l, acc2⟩ := acc_rd E1 (o1.at (Ext.refl _)) acc1
    cases d with
    | obj q fs =>
      have acc2 : AccR G W fm pl1 (env.wm m1) σ H1 (if q = c then Q.flT c' m1 (fs[i]?) else .bad) fun _ _ _ _ v H' => P v H' := acc2
      by_cases hq : q = c
      · subst hq
        rw [if_pos rfl] at acc2
        obtain ⟨y, z, acc3⟩ := fl_some acc2
        obtain ⟨a, dx, vs, rfl, e, r⟩ := l.obj
        obtain ⟨w, h1, h2⟩ := r.get z
        exact ⟨a, _, dx, _, w, rfl, e, hK ▸ C.cl, hK ▸ C.no _ (List.mem_of_getElem? hi), zip_look C.nd hi h1, acc3 _ w H1 E1 (Ext.refl _) (part_ok h2)⟩
      · rw [if_neg hq] at acc2
        exact acc2.elim
    | _ => exact acc2.elim
theorem arg_left {fm : Fm} {pl : Pl} {t u : Bool} {H : Hp} : Sub (ArgR fm pl t) H (ArgR fm pl (t || u)) H := by
  cases t with
  | false => exact arg_cold
  | true => rw [Bool.true_or]; exact Sub.rfl'
theorem meth_of {N : Nat} {H0 H1 H2 : Hp} {fm : Fm} {pl1 pl2 : Pl} {env : Q.Env} {σ : L2.St} {v : V} {fs : List D} {cl : Cl} {t : Bool} {ds : List D} {vs : List V} {P : VK} {m m2 : Mem} (o1 : FOk G fm pl1 m H0 H1 v (.obj c fs) cl) (s2 : Ext pl1 H1 pl2 H2) (E2 : EnvOk G fm pl2 (env.wm m2) [] σ H2)
    (r2 : Reps G (ArgR fm pl2 t) H2 vs ds)
    (acc : AccR G W fm pl2 (env.wm m2) σ H2 (if ds.length = N then Q.run (Q.dirty cl (.obj c fs) || t) g (.obj c fs :: ds) m2 else .bad) fun _ _ _ _ v H' => P v H') : spF G (N + 1) g (v :: vs) H2 P (fun cls d H' => W cls d σ H') := by
  by_cases hn : ds.length = N
  · rw [if_pos hn] at acc
    exact spF_of (t := Q.dirty cl (.obj c fs) || t) (ds := .obj c fs :: ds) E2 (Reps.cons ((o1.arg.sub s2.arg).sub arg_left) (r2.sub arg_or)) (by rw [List.length_cons, if_pos (by rw [hn])]; exact acc)
  · rw [if_neg hn] at acc
    exact acc.elim
theorem q_meth {pl : Sem Bool} (hK : X.K = G.K) (C : ClsOk G c) (he : PE X o (tE G W eo)) (hm : Meth X.K (G.cls c) m f) (F : FnOk X.prog X.w X.K X.mg X.base (L2.CX X.prog X.w) k f fd ps (spF G (n + 1) g)) (hr : Room k X.A) (hb : Binds X.K fd ps []) (tk : Takes X W)
    (ha : PA X (e :: es) (tA G W ea)) (hnm : m ∉ G.names c := by decide)
    (hst : starEach (e :: es) X.env = (false, eval e X.env) :: starEach es X.env := by rfl) (hpl : (backTo pos (starEach es X.env)).any (·.1) = false := by rfl)
    (ht : eval (.Call (.Attribute o m apos) (e :: es) [] pos) X.env = (eval o X.env >>= fun ov => standAt apos.atName >>= fun _ => holding [ov] (getMethod ov m pl) >>= fun x =>
      callWith pos x.1 x.2 (backTo pos (starEach (e :: es) X.env)) (backToKw pos (keywordEach [] X.env))) := by rfl) :
    PE X (.Call (.Attribute o m apos) (e :: es) [] pos) (tE G W (Q.meth c n g eo ea)) :=
  (pe_methW he (hK ▸ C.cl) hm F hr hb tk ha hst hpl ht).conv fun σ H P ⟨fm, pl, env, E, acc⟩ => tE_in E (acc_bind acc) fun pl1 d cl m1 v H1 E1 s1 o1 acc1 => by
    cases d with
    | obj q fs =>
      have acc1 : AccR G W fm pl1 (env.wm m1) σ H1 (if q = c then (ea (env.wm m1)).bind fun ds t μ => (if ds.length = n then Q.run (Q.dirty cl (.obj q fs) || t) g (.obj q fs :: ds) μ else .bad) else .bad) fun _ _ _ _ v H' => P v H' := acc1
      by_cases hq : q = c
      · subst hq
        rw [if_pos rfl] at acc1
        obtain ⟨a, dx, vs, rfl, e, r⟩ := o1.look.obj
        exact ⟨a, dx, _, rfl, e, zip_none hnm, tA_in E1 (accA_bind acc1) fun pl2 ds t m2 vs H2 E2 s2 r2 acc2 => meth_of o1 s2 E2 r2 acc2⟩
      · rw [if_neg hq] at acc1
        exact acc1.elim
    | _ => exact acc1.elim
theorem q_meth0 {pl : Sem Bool} (hK : X.K = G.K) (C : ClsOk G c) (he : PE X o (tE G W eo)) (hm : Meth X.K (G.cls c) m f) (F : FnOk X.prog X.w X.K X.mg X.base (L2.CX X.prog X.w) k f fd ps (spF G 1 g)) (hr : Room k X.A) (hb : Binds X.K fd ps []) (tk : Takes X W) (hnm : m ∉ G.names c := by decide)
    (ht : eval (.Call (.Attribute o m apos) [] [] pos) X.env = (eval o X.env >>= fun ov => standAt apos.atName >>= fun _ => holding [ov] (getMethod ov m pl) >>= fun x =>
      callWith pos x.1 x.2 (backTo pos (starEach [] X.env)) (backToKw pos (keywordEach [] X.env))) := by rfl) :
    PE X (.Call (.Attribute o m apos) [] [] pos) (tE G W (Q.meth c 0 g eo Q.anil)) :=
  (pe_methW0 he (hK ▸ C.cl) hm F hr hb tk ht).conv fun σ H P ⟨fm, pl, env, E, acc⟩ => tE_in E (acc_bind acc) fun pl1 d cl m1 v H1 E1 s1 o1 acc1 => by
    cases d with
    | obj q fs =>
      have acc1 : AccR G W fm pl1 (env.wm m1) σ H1 (if q = c then Q.run (Q.dirty cl (.obj q fs) || false) g [.obj q fs] m1 else .bad) fun _ _ _ _ v H' => P v H' := acc1
      by_cases hq : q = c
      · subst hq
        rw [if_pos rfl] at acc1
        obtain ⟨a, dx, vs, rfl, e, r⟩ := o1.look.obj
        exact ⟨a, dx, _, rfl, e, zip_none hnm, meth_of (N := 0) (t := false) (ds := []) (vs := []) o1 (Ext.refl _) E1 Reps.nil acc1⟩
      · rw [if_neg hq] at acc1
        exact acc1.elim
    | _ => exact acc1.elim
/-- o a place at which an object stands -/
theorem q_methP {pl : Sem Bool} (hK : X.K = G.K) (C : ClsOk G c) (he : PE X o (tE G W eo)) (hm : Meth X.K (G.cls c) m f) (F : FnOk X.prog X.w X.K X.mg X.base (L2.CX X.prog X.w) k f fd ps (spF G (n + 1) g)) (hr : Room k X.A) (hb : Binds X.K fd ps []) (tk : Takes X W)
    (ha : PA X (e :: es) (tA G W ea)) (hnm : m ∉ G.names c := by decide)
    (hst : starEach (e :: es) X.env = (false, eval e X.env) :: starEach es X.env := by rfl) (hpl : (backTo pos (starEach es X.env)).any (·.1) = false := by rfl)
    (ht : eval (.Call (.Attribute o m apos) (e :: es) [] pos) X.env = (eval o X.env >>= fun ov => standAt apos.atName >>= fun _ => holding [ov] (getMethod ov m pl) >>= fun x =>
      callWith pos x.1 x.2 (backTo pos (starEach (e :: es) X.env)) (backToKw pos (keywordEach [] X.env))) := by rfl) :
    PE X (.Call (.Attribute o m apos) (e :: es) [] pos) (tE G W (Q.methP c n g eo ea)) :=
  (pe_methW he (hK ▸ C.cl) hm F hr hb tk ha hst hpl ht).conv fun σ H P ⟨fm, pl, env, E, acc⟩ => tE_in E (acc_bind acc) fun pl1 d cl m1 v H1 E1 s1 o1 acc1 => by
    cases d with
    | ptr q =>
      have acc1 : AccR G W fm pl1 (env.wm m1) σ H1 (Q.mpS c n g (env) ea q m1 (Q.at_ m1 q)) fun _ _ _ _ v H' => P v H' := acc1
      cases z : Q.at_ m1 q with
      | none => rw [z] at acc1; exact acc1.elim
      | some d =>
        rw [z] at acc1
        obtain ⟨a, rfl, hmu, hcs, con, l⟩ := cell_look E1 o1.anyR (show Q.at_ (env.wm m1).mem q = some d from z)
        cases d with
        | obj r fs =>
          have acc1 : AccR G W fm pl1 (env.wm m1) σ H1 (if r = c then (ea (env.wm m1)).bind fun ds t μ => (if ds.length = n then Q.run t g (.ptr q :: ds) μ else .bad) else .bad) fun _ _ _ _ v H' => P v H' := acc1
          by_cases hq : r = c
          · subst hq
            rw [if_pos rfl] at acc1
            obtain ⟨a', dx, vs, ea', e, r⟩ := l.obj
            cases ea'
            refine ⟨a, dx, _, rfl, e, zip_none hnm, tA_in E1 (accA_bind acc1) fun pl2 ds t m2 vs H2 E2 s2 r2 acc2 => ?_⟩
            by_cases hn : ds.length = n
            · rw [if_pos hn] at acc2
              have rp : Rep G (ArgR fm pl2 t) H2 (.ref a) (.ptr q) := Rep.ptr (by
                have : (ArgR fm pl2 t).mu = pl2.mu := by cases t <;> rfl
                rw [this]; exact pre_get s2.mu hmu)
              exact spF_of (t := t) (ds := .ptr q :: ds) E2 (Reps.cons rp r2) (by rw [List.length_cons, if_pos (by rw [hn])]; exact acc2)
            · rw [if_neg hn] at acc2; exact acc2.elim
          · rw [if_neg hq] at acc1; exact acc1.elim
        | _ => exact acc1.elim
    | _ => exact acc1.elim
theorem q_methP0 {pl : Sem Bool} (hK : X.K = G.K) (C : ClsOk G c) (he : PE X o (tE G W eo)) (hm : Meth X.K (G.cls c) m f) (F : FnOk X.prog X.w X.K X.mg X.base (L2.CX X.prog X.w) k f fd ps (spF G 1 g)) (hr : Room k X.A) (hb : Binds X.K fd ps []) (tk : Takes X W) (hnm : m ∉ G.names c := by decide)
    (ht : eval (.Call (.Attribute o m apos) [] [] pos) X.env = (eval o X.env >>= fun ov => standAt apos.atName >>= fun _ => holding [ov] (getMethod ov m pl) >>= fun x =>
      callWith pos x.1 x.2 (backTo pos (starEach [] X.env)) (backToKw pos (keywordEach [] X.env))) := by rfl) :
    PE X (.Call (.Attribute o m apos) [] [] pos) (tE G W (Q.methP c 0 g eo Q.anil)) :=
  (pe_methW0 he (hK ▸ C.cl) hm F hr hb tk ht).conv fun σ H P ⟨fm, pl, env, E, acc⟩ => tE_in E (acc_bind acc) fun pl1 d cl m1 v H1 E1 s1 o1 acc1 => by
    cases d with
    | ptr q =>
      have acc1 : AccR G W fm pl1 (env.wm m1) σ H1 (Q.mpS c 0 g (env) Q.anil q m1 (Q.at_ m1 q)) fun _ _ _ _ v H' => P v H' := acc1
      cases z : Q.at_ m1 q with
      | none => rw [z] at acc1; exact acc1.elim
      | some d =>
        rw [z] at acc1
        obtain ⟨a, rfl, hmu, hcs, con, l⟩ := cell_look E1 o1.anyR (show Q.at_ (env.wm m1).mem q = some d from z)
        cases d with
        | obj r fs =>
          have acc1 : AccR G W fm pl1 (env.wm m1) σ H1 (if r = c then Q.run false g [.ptr q] m1 else .bad) fun _ _ _ _ v H' => P v H' := acc1
          by_cases hq : r = c
          · subst hq
            rw [if_pos rfl] at acc1
            obtain ⟨a', dx, vs, ea', e, r⟩ := l.obj
            cases ea'
            refine ⟨a, dx, _, rfl, e, zip_none hnm, ?_⟩
            exact spF_of (t := false) (ds := [.ptr q]) E1 (Reps.cons (Rep.ptr hmu) Reps.nil) (by rw [List.length_cons, List.length_nil, if_pos rfl]; exact acc1)
          · rw [if_neg hq] at acc1; exact acc1.elim
        | _ => exact acc1.elim
    | _ => exact acc1.elim
end
/-! ### C(..) -/
def tMakeW (C : Addr) (sp : Sp) (W : WX) (t : TA) : TE := fun σ H P => t σ H fun vs H1 => ∀ x dx, H1 x = none → H1 dx = none → dx ≠ x →
  sp (.ref x :: vs) (L2.upd (L2.upd H1 dx (.own x)) x (.ins C dx [])) (fun v H2 => v = .non ∧ P (.ref x) H2) (fun cls d H' => W cls d σ H')
section
variable {X : Cx} {W : WX} {G : Cfg} {k n c : Nat} {C f : Addr} {fd : FuncData} {ps : List Str} {sp : Sp} {g : Q.F} {x : Str} {p pos : Pos} {e : Expr} {es : List Expr} {ea : Q.XA} {t : TA}
theorem pe_makeW (M : Mk X.K C f) (F : FnOk X.prog X.w X.K X.mg X.base (L2.CX X.prog X.w) k f fd ps sp) (hr : Room (k + 1) X.A) (hg : Gl X x) (hm : X.mg x = some (.ref C)) (hb : Binds X.K fd ps []) (tk : Takes X W) (ha : PA X (e :: es) t)
    (hdb : (x == ("__debug__" : Str)) = false) (he : starEach (e :: es) X.env = (false, eval e X.env) :: starEach es X.env) (hpl : (backTo pos (starEach es X.env)).any (·.1) = false) :
    PE X (.Call (.Name x p) (e :: es) [] pos) (tMakeW C sp W t) := by
  refine ⟨fun pins s σ H P I h => wpAny_Call_Name_kw (ld_glob I hg hm ?_ hdb)⟩
  refine PySem.W.callWith_K (h₀ := X.base) I.ok.mod.kin M.kp (thn (ha.run pos pins s σ H _ I h) fun us s1 hh => ?_) he hpl
  obtain ⟨vs, H1, I1, r, q⟩ := hh
  refine ⟨I1.kIn, ?_⟩
  have hq := q (s1.heap.objs.size + 1) s1.heap.objs.size (I1.hok.fresh (Nat.le_succ _)) (I1.hok.fresh (Nat.le_refl _)) (Nat.ne_of_lt (Nat.lt_succ_self _))
  have I2 := Inv.made (C := C) I1
  have r2 : Vals (V.ref (s1.heap.objs.size + 1) :: vs) (Value.ref (s1.heap.objs.size + 1) :: us) := .cons rfl r
  have hl : (Value.ref (s1.heap.objs.size + 1) :: us ++ []).length = ps.length := by
    have e1 := F.len _ _ _ _ hq
    rw [List.append_nil, ← r2.length, e1]
  have bd := hb _ (Value.ref (s1.heap.objs.size + 1) :: us) I2.kIn hl
  rw [List.append_nil] at bd
  refine wpAny_call (make_map (f := f) I1.kIn M.makes M.init (beq_iff_eq.mp M.fn) (codeAny_mono (F.run _ X.stack _ _ ⟨Value.ref (s1.heap.objs.size + 1) :: us, []⟩ _ _ _ _ (hr.make C us []) (I2.env0.make C us []) bd r2 hq) fun z s' hz => ?_))
  cases z with
  | error e => exact passAt tk σ pins _ _ e s' I2 hz
  | ok fl =>
    cases fl with
    | ret u =>
      obtain ⟨v, H', I3, rv, ev, q3⟩ := I2.after hz
      subst ev
      exact ⟨rv, V.ref (s1.heap.objs.size + 1), H', I3, rfl, q3⟩
    | next => exact False.elim hz
    | brk => exact False.elim hz
    | cont => exact False.elim hz
/-- the new object as its maker holds it -/
theorem made_ok {fm : Fm} {pl : Pl} {env : Q.Env} {σ : L2.St} {H1 : Hp} {vs : List V} {ds : List D} {t : Bool} {m : Mem} {P : VK} (E : EnvOk G fm pl (env.wm m) [] σ H1)
    (r1 : Reps G (ArgR fm pl t) H1 vs ds) (acc : AccR G W fm pl (env.wm m) σ H1 (if ds.length = n then Q.mkR t g ds m else .bad) fun _ _ _ _ v H' => P v H')
    (hobj : ∀ m d cl m', g ds m = .ok d cl m' → ∃ fs, d = .obj c fs) :
    ∀ x dx, H1 x = none → H1 dx = none → dx ≠ x → spI G c n true g (.ref x :: vs) (L2.upd (L2.upd H1 dx (.own x)) x (.ins (G.cls c) dx [])) (fun v H2 => v = .non ∧ P (.ref x) H2) (fun cls d H' => W cls d σ H') := by
  intro x dx hx hdx hne
  by_cases hn : ds.length = n
  · rw [if_pos hn] at acc
    have s0 : Same H1 (L2.upd (L2.upd H1 dx (.own x)) x (.ins (G.cls c) dx [])) := fun b o e => by
      rw [upd_ne (ne_of_none e hx), upd_ne (ne_of_none e hdx)]
      exact e
    have gone : ∀ a, L2.upd (L2.upd H1 dx (.own x)) x (.ins (G.cls c) dx []) a = none → H1 a = none := fun a h => s0.free h
    have hx2 : L2.upd (L2.upd H1 dx (.own x)) x (.ins (G.cls c) dx []) x = some (.ins (G.cls c) dx []) := upd_same
    have tb : ∀ a, TupH (L2.upd (L2.upd H1 dx (.own x)) x (.ins (G.cls c) dx [])) a → TupH H1 a := fun a ⟨xs, e⟩ => by
      by_cases h1 : a = x
      · rw [h1, upd_same] at e; cases e
      · rw [upd_ne h1] at e
        by_cases h2 : a = dx
        · rw [h2, upd_same] at e; cases e
        · rw [upd_ne h2] at e; exact ⟨xs, e⟩
    generalize L2.upd (L2.upd H1 dx (.own x)) x (.ins (G.cls c) dx []) = H2 at s0 gone hx2 tb ⊢
    have amu : ∀ t, (ArgR fm pl t).mu = pl.mu := fun t => by cases t <;> rfl
    have rs : Sub (ArgR fm pl t) H1 ⟨fun a => (ArgR fm pl t).p a ∧ H1 a ≠ none, pl.mu⟩ H2 := ⟨fun a o h e => ⟨⟨h, by rw [e]; exact fun z => nomatch z⟩, s0 a o e⟩, by rw [amu]; exact List.prefix_refl _⟩
    have xcs : ∀ {cs' mu' : List Addr} {H' : Hp}, After (some x) pl.mu pl.cs H2 cs' mu' H' → x ∉ cs' := fun F m => (F.cs x m).elim (E.newCs hx) fun z => by rw [hx2] at z; cases z
    cases t with
    | false =>
      have acc : AccR G W fm pl (env.wm m) σ H1 (Q.freshR (g ds m)) fun _ _ _ _ v H' => P v H' := acc
      have aft : ∀ {cs' mu' : List Addr} {H' : Hp}, After (some x) pl.mu pl.cs H2 cs' mu' H' → Ext pl H1 ⟨pl.hs, cs', mu'⟩ H' := fun F => ⟨fun a o e n => F.keep a o (s0 a o e) n (fun z => by cases z; rw [hx] at e; cases e), fun a h => F.dom a (dom_same s0 a h), rfl, fun a m => (F.cs a m).imp id (gone a), F.mu⟩
      have out : ∀ {cs' mu' : List Addr} {H' : Hp}, Sub (outR ((Reg.mk (fun a => (ArgR fm pl false).p a ∧ H1 a ≠ none) pl.mu).kept true) H2 pl.cs cs' mu') H' (Cold fm ⟨pl.hs, cs', mu'⟩) H' := fun {cs' mu' H'} => ⟨fun a o h e => ⟨by
        rcases h.1 with (h1 | h1) | h1 | h1
        · exact ⟨h1.2.1.1, h1.2.1.2.1, h.2⟩
        · have c := E.tup (tb a h1); exact ⟨c.1, c.2.1, h.2⟩
        · exact ⟨.inr (.inl (E.newH0 (gone a h1))), E.newHs (gone a h1), h.2⟩
        · exact ⟨(E.cn a h1).1.elim (fun z => .inr (.inr z)) fun z => .inr (.inl z), (E.cn a h1).2.2, h.2⟩, e⟩, List.prefix_refl _⟩
      refine ⟨x, dx, vs, ⟨fun a => (ArgR fm pl false).p a ∧ H1 a ≠ none, pl.mu⟩, pl.cs, m, ds, rfl, by rw [r1.1]; exact hn, hx2, fun h => h.2 hx, E.newCs hx, fun a h => dom_same s0 a h.2, ⟨?_, fun a h => ⟨fun z => z.2.1.2.2 h, (E.cn a h).2.1.keep fun o z => s0 a o z⟩⟩, fun a h z => z.1.2.2 h, r1.sub rs, ?_⟩
      · exact E.mem.sub ⟨fun a o h e => ⟨⟨rfl, h, by rw [e]; exact fun z => nomatch z⟩, s0 a o e⟩, List.prefix_refl _⟩ rfl fun a _ o e => s0 a o e
      · cases q : g ds m with
        | bad => rw [q] at acc; exact acc
        | ok d cl m' =>
          rw [q] at acc
          obtain ⟨fs, rfl⟩ := hobj _ d cl _ q
          refine ⟨fs, rfl, fun H' cs' mu' F M K => ⟨rfl, ?_⟩⟩
          have E' := E.ext (m := m') (aft F) F.live (M.wider (out.but.trans but_sub) rfl)
          exact acc ⟨pl.hs, cs', mu'⟩ _ H' E' (aft F) ⟨x, rfl, hx, ⟨.inr (.inl (E.newH0 hx)), E.newHs hx, xcs F⟩, K.sub out.but fun o e => e, M.wider out.but rfl⟩
        | exc kk fs m' =>
          rw [q] at acc
          intro cls dd H' cs' mu' F M xx
          have E' := E.ext (m := m') (aft F) F.live (M.wider (out.but.trans but_sub) rfl)
          refine acc ⟨pl.hs, cs', mu'⟩ cls dd H' E' (aft F) (xx.sub ?_ fun a o h e => ⟨⟨E.newH0 (gone a h.1), E.newHs (gone a h.1), h.2⟩, e⟩)
          exact ⟨fun a o h e => (out (cs' := cs') (mu' := mu')).go a o ⟨h.1.1.imp (fun z => z.imp (fun z => ⟨rfl, z⟩) id) id, h.1.2⟩ e, List.prefix_refl _⟩
    | true =>
      have acc : AccR G W fm pl (env.wm m) σ H1 (Q.lentR true .taint m (g ds (Q.dead m))) fun _ _ _ _ v H' => P v H' := acc
      have same : ∀ {cs' mu' : List Addr} {H' : Hp}, After (some x) pl.mu [] H2 cs' mu' H' → Same H1 H' := fun F a o e => F.keep a o (s0 a o e) (by simp) fun z => by cases z; rw [hx] at e; cases e
      refine ⟨x, dx, vs, ⟨fun a => (ArgR fm pl true).p a ∧ H1 a ≠ none, pl.mu⟩, [], Q.dead m, ds, rfl, by rw [r1.1]; exact hn, hx2, fun h => h.2 hx, by simp, fun a h => dom_same s0 a h.2, ⟨dead_ok E.mem.len, fun a h => by simp at h⟩, fun a h => by simp at h, r1.sub rs, ?_⟩
      have muE : ∀ {A : Reg} {cs' mu' : List Addr} {H' : Hp} {m' : Mem}, After (some x) pl.mu [] H2 cs' mu' H' → MemOk G ((outR A H2 [] cs' mu').but x) cs' H' m' → m'.length = m.length → mu' = pl.mu := fun {A cs' mu' H' m'} F M h => pre_eq F.mu (by
        have h1 : mu'.length = m'.length := M.len
        have h2 : pl.mu.length = m.length := E.mem.len
        omega)
      cases q : g ds (Q.dead m) with
      | bad => rw [q] at acc; exact acc
      | ok d cl m' =>
        rw [q] at acc
        have acc : AccR G W fm pl (env.wm m) σ H1 (if m'.length = m.length then .ok d .taint m else .bad) fun _ _ _ _ v H' => P v H' := acc
        obtain ⟨fs, rfl⟩ := hobj _ d cl _ q
        by_cases hl : m'.length = m.length
        · rw [if_pos hl] at acc
          refine ⟨fs, rfl, fun H' cs' mu' F M K => ⟨rfl, ?_⟩⟩
          have hm := muE F M hl
          refine acc pl _ H' (E.later (same F)) (ext_same (same F)) ?_
          refine (K.sub (B := TR fm pl) ⟨fun a o h e => ⟨?_, e⟩, by subst hm; exact List.prefix_refl _⟩ fun o e => e).rep (E.newTR hx)
          rcases h.1.1 with (h1 | h1) | h1 | h1
          · exact h1.2.1
          · have c := E.tup (tb a h1); exact ⟨.inl c.1, c.2.2⟩
          · exact E.newTR (gone a h1)
          · simp at h1
        · rw [if_neg hl] at acc; exact acc.elim
      | exc kk fs m' =>
        rw [q] at acc
        have acc : AccR G W fm pl (env.wm m) σ H1 (if m'.length = m.length ∧ (true = false ∨ fs.all Q.D.scalar = true) then .exc kk fs m else .bad) fun _ _ _ _ v H' => P v H' := acc
        by_cases hl : m'.length = m.length ∧ (true = false ∨ fs.all Q.D.scalar = true)
        · rw [if_pos hl] at acc
          intro cls dd H' cs' mu' F M xx
          exact acc pl cls dd H' (E.later (same F)) (ext_same (same F)) (xx.scalars (hl.2.elim (fun z => by cases z) id) fun a h => E.newNew (gone a h.1))
        · rw [if_neg hl] at acc; exact acc.elim
  · rw [if_neg hn] at acc
    exact acc.elim
theorem madeN_ok {fm : Fm} {pl : Pl} {env : Q.Env} {σ : L2.St} {H1 : Hp} {vs : List V} {ds : List D} {t : Bool} {m : Mem} {P : VK} (E : EnvOk G fm pl (env.wm m) [] σ H1)
    (r1 : Reps G (ArgR fm pl t) H1 vs ds) (acc : AccR G W fm pl (env.wm m) σ H1 (if ds.length = n then Q.lentR t .fresh m (g ds (Q.dead m)) else .bad) fun _ _ _ _ v H' => P v H')
    (hobj : ∀ m d cl m', g ds m = .ok d cl m' → ∃ fs, d = .obj c fs) :
    ∀ x dx, H1 x = none → H1 dx = none → dx ≠ x → spI G c n false g (.ref x :: vs) (L2.upd (L2.upd H1 dx (.own x)) x (.ins (G.cls c) dx [])) (fun v H2 => v = .non ∧ P (.ref x) H2) (fun cls d H' => W cls d σ H') := by
  intro x dx hx hdx hne
  by_cases hn : ds.length = n
  · rw [if_pos hn] at acc
    have s0 : Same H1 (L2.upd (L2.upd H1 dx (.own x)) x (.ins (G.cls c) dx [])) := fun b o e => by
      rw [upd_ne (ne_of_none e hx), upd_ne (ne_of_none e hdx)]
      exact e
    have gone : ∀ a, L2.upd (L2.upd H1 dx (.own x)) x (.ins (G.cls c) dx []) a = none → H1 a = none := fun a h => s0.free h
    have hx2 : L2.upd (L2.upd H1 dx (.own x)) x (.ins (G.cls c) dx []) x = some (.ins (G.cls c) dx []) := upd_same
    have tb : ∀ a, TupH (L2.upd (L2.upd H1 dx (.own x)) x (.ins (G.cls c) dx [])) a → TupH H1 a := fun a ⟨xs, e⟩ => by
      by_cases h1 : a = x
      · rw [h1, upd_same] at e; cases e
      · rw [upd_ne h1] at e
        by_cases h2 : a = dx
        · rw [h2, upd_same] at e; cases e
        · rw [upd_ne h2] at e; exact ⟨xs, e⟩
    generalize L2.upd (L2.upd H1 dx (.own x)) x (.ins (G.cls c) dx []) = H2 at s0 gone hx2 tb ⊢
    have amu : (ArgR fm pl t).mu = pl.mu := by cases t <;> rfl
    have rs : Sub (ArgR fm pl t) H1 ⟨fun a => (ArgR fm pl t).p a ∧ H1 a ≠ none, pl.mu⟩ H2 := ⟨fun a o h e => ⟨⟨h, by rw [e]; exact fun z => nomatch z⟩, s0 a o e⟩, by rw [amu]; exact List.prefix_refl _⟩
    have same : ∀ {cs' mu' : List Addr} {H' : Hp}, After (some x) pl.mu [] H2 cs' mu' H' → Same H1 H' := fun F a o e => F.keep a o (s0 a o e) (by simp) fun z => by cases z; rw [hx] at e; cases e
    refine ⟨x, dx, vs, ⟨fun a => (ArgR fm pl t).p a ∧ H1 a ≠ none, pl.mu⟩, [], Q.dead m, ds, rfl, by rw [r1.1]; exact hn, hx2, fun h => h.2 hx, by simp, fun a h => dom_same s0 a h.2, ⟨dead_ok E.mem.len, fun a h => by simp at h⟩, fun a h => by simp at h, r1.sub rs, ?_⟩
    have muE : ∀ {A : Reg} {cs' mu' : List Addr} {H' : Hp} {m' : Mem}, After (some x) pl.mu [] H2 cs' mu' H' → MemOk G ((outR A H2 [] cs' mu').but x) cs' H' m' → m'.length = m.length → mu' = pl.mu := fun {A cs' mu' H' m'} F M h => pre_eq F.mu (by
      have h1 : mu'.length = m'.length := M.len
      have h2 : pl.mu.length = m.length := E.mem.len
      omega)
    cases q : g ds (Q.dead m) with
    | bad => rw [q] at acc; exact acc
    | ok d cl m' =>
      rw [q] at acc
      have acc : AccR G W fm pl (env.wm m) σ H1 (if m'.length = m.length then .ok d .fresh m else .bad) fun _ _ _ _ v H' => P v H' := acc
      obtain ⟨fs, rfl⟩ := hobj _ d cl _ q
      by_cases hl : m'.length = m.length
      · rw [if_pos hl] at acc
        refine ⟨fs, rfl, fun H' cs' mu' F M K => ⟨rfl, ?_⟩⟩
        have hm := muE F M hl
        refine acc pl _ H' (E.later (same F)) (ext_same (same F)) ⟨x, rfl, hx, E.newCold hx, ?_, E.mem.sub ⟨fun a o h e => ⟨⟨h, fun z => by rw [z, hx] at e; cases e⟩, same F a o e⟩, List.prefix_refl _⟩ rfl fun a _ o e => same F a o e⟩
        refine K.sub (B := (Cold fm pl).but x) ⟨fun a o h e => ⟨⟨?_, h.2⟩, e⟩, by subst hm; exact List.prefix_refl _⟩ fun o e => e
        rcases h.1.1 with (h1 | h1) | h1 | h1
        · cases h1.1
        · exact E.tup (tb a h1)
        · exact E.newCold (gone a h1)
        · simp at h1
      · rw [if_neg hl] at acc; exact acc.elim
    | exc kk fs m' =>
      rw [q] at acc
      have acc : AccR G W fm pl (env.wm m) σ H1 (if m'.length = m.length ∧ (t = false ∨ fs.all Q.D.scalar = true) then .exc kk fs m else .bad) fun _ _ _ _ v H' => P v H' := acc
      by_cases hl : m'.length = m.length ∧ (t = false ∨ fs.all Q.D.scalar = true)
      · rw [if_pos hl] at acc
        intro cls dd H' cs' mu' F M xx
        have hm := muE F M hl.1
        refine acc pl cls dd H' (E.later (same F)) (ext_same (same F)) ?_
        rcases hl.2 with ht | hs
        · subst ht
          refine xx.sub ⟨fun a o h e => ⟨?_, e⟩, by subst hm; exact List.prefix_refl _⟩ fun a o h e => ⟨E.newNew (gone a h.1), e⟩
          rcases h.1.1 with (h1 | h1) | h1 | h1
          · exact h1.1
          · exact E.tup (tb a h1)
          · exact E.newCold (gone a h1)
          · simp at h1
        · exact xx.scalars hs fun a h => E.newNew (gone a h.1)
      · rw [if_neg hl] at acc; exact acc.elim
  · rw [if_neg hn] at acc
    exact acc.elim
theorem q_mk (M : Mk X.K (G.cls c) f) (F : FnOk X.prog X.w X.K X.mg X.base (L2.CX X.prog X.w) k f fd ps (spI G c n true g)) (hobj : ∀ ds m d cl m', g ds m = .ok d cl m' → ∃ fs, d = .obj c fs) (hr : Room (k + 1) X.A) (hm : X.mg x = some (.ref (G.cls c))) (hb : Binds X.K fd ps []) (tk : Takes X W) (ha : PA X (e :: es) (tA G W ea))
    (hg : Gl X x := by rfl) (hdb : (x == ("__debug__" : Str)) = false := by decide) (he : starEach (e :: es) X.env = (false, eval e X.env) :: starEach es X.env := by rfl) (hpl : (backTo pos (starEach es X.env)).any (·.1) = false := by rfl) :
    PE X (.Call (.Name x p) (e :: es) [] pos) (tE G W (Q.mk n g ea)) :=
  (pe_makeW M F hr hg hm hb tk ha hdb he hpl).conv fun σ H P ⟨fm, pl, env, E, acc⟩ => tA_in E (accA_bind acc) fun pl1 ds t m1 vs H1 E1 s1 r1 acc1 => made_ok E1 r1 acc1 (hobj ds)
theorem q_mkN (M : Mk X.K (G.cls c) f) (F : FnOk X.prog X.w X.K X.mg X.base (L2.CX X.prog X.w) k f fd ps (spI G c n false g)) (hobj : ∀ ds m d cl m', g ds m = .ok d cl m' → ∃ fs, d = .obj c fs) (hr : Room (k + 1) X.A) (hm : X.mg x = some (.ref (G.cls c))) (hb : Binds X.K fd ps []) (tk : Takes X W) (ha : PA X (e :: es) (tA G W ea))
    (hg : Gl X x := by rfl) (hdb : (x == ("__debug__" : Str)) = false := by decide) (he : starEach (e :: es) X.env = (false, eval e X.env) :: starEach es X.env := by rfl) (hpl : (backTo pos (starEach es X.env)).any (·.1) = false := by rfl) :
    PE X (.Call (.Name x p) (e :: es) [] pos) (tE G W (Q.mkN n g ea)) :=
  (pe_makeW M F hr hg hm hb tk ha hdb he hpl).conv fun σ H P ⟨fm, pl, env, E, acc⟩ => tA_in E (accA_bind acc) fun pl1 ds t m1 vs H1 E1 s1 r1 acc1 => madeN_ok E1 r1 acc1 (hobj ds)
end
end QW

set_option Elab.async false
set_option linter.all false
set_option maxRecDepth 100000
set_option maxHeartbeats 4000000
namespace QW
open PySem PySem.Spec PyProof.Rows L2
open Q (D S R RA RB Ctl Cl Pat Mem)
/-! ### statements -/
/-- a value as it is given back -/
def RtV (G : Cfg) (fm : Fm) (pl : Pl) (m : Mem) (H' : Hp) (v : V) (d : D) : Cl → Prop
  | .cold => Rep G (Cold fm pl) H' v d
  | .fresh => ∃ p, v = .ref p ∧ fm.H0 p = none ∧ p ∉ pl.cs ∧ Con G ((Cold fm pl).but p) H' p d ∧ MemOk G ((Cold fm pl).but p) pl.cs H' m
  | .hot => ∃ p, v = .ref p ∧ p ∈ pl.hs ∧ p ∉ pl.cs ∧ Con G (Cold fm pl) H' p d
  | .taint => Rep G (TR fm pl) H' v d
def AccS (G : Cfg) (W : WX) (fm : Fm) (ks : List (V × D)) (T : Ends) : Ctl → Prop
  | .nx e => ∀ pl σ H, EnvOk G fm pl e ks σ H → T.nx σ H
  | .bk e => ∀ pl σ H, EnvOk G fm pl e ks σ H → T.bk σ H
  | .ct e => ∀ pl σ H, EnvOk G fm pl e ks σ H → T.ct σ H
  | .rt d c e => ∀ v pl σ H, EnvOk G fm pl e ks σ H → RtV G fm pl e.mem H v d c → T.rt v H
  | .exc k fs e => ∀ cls dd pl σ H, EnvOk G fm pl e ks σ H → RepX G (Cold fm pl) (New fm pl) H cls dd k fs → W cls dd σ H
  | .bad => False
def tS (G : Cfg) (W : WX) (ev : Q.XS) : TS := fun T σ H => ∃ fm pl env ks, EnvOk G fm pl env ks σ H ∧ AccS G W fm ks T (ev env)
section
variable {G : Cfg} {W : WX} {fm : Fm} {pl pl1 : Pl} {env : Q.Env} {ks : List (V × D)} {σ : L2.St} {H H' : Hp} {T : Ends} {m : Mem}
theorem rtv_of {v : V} {d : D} {c : Cl} (E : EnvOk G fm pl env ks σ H) (o : FOk G fm pl1 m H H' v d c) : RtV G fm pl1 m H' v d c := by
  cases c with
  | cold => exact o
  | taint => exact o
  | hot => exact o
  | fresh =>
    obtain ⟨p, a, b, c, d⟩ := o
    exact ⟨p, a, E.newH0 b, c.2.2, d⟩
/-- a statement that begins with an evaluation: the frame with what it keeps -/
theorem env_back {pl0 : Pl} {H0 : Hp} (E : EnvOk G fm pl0 env ks σ H0) (s : Ext pl0 H0 pl1 H') (E' : EnvOk G fm pl1 (env.wm m) [] σ H') : EnvOk G fm pl1 (env.wm m) ks σ H' := ext_wm (e' := env.wm m) E s E'
theorem accS_bind {r : R} {k : D → Cl → Mem → Ctl} (E : EnvOk G fm pl env ks σ H) (h : AccS G W fm ks T (r.bindS env k)) :
    AccR G W fm pl env σ H r fun _ d c m _ _ => AccS G W fm ks T (k d c m) := by
  cases r with
  | ok d c m => exact fun pl' v H' E' s q => h
  | exc k fs m => exact fun pl' cls dd H' E' s x => h cls dd pl' σ H' (env_back E s E') x
  | bad => exact h
theorem accS_bindA {r : RA} {k : List D → Bool → Mem → Ctl} (E : EnvOk G fm pl env ks σ H) (h : AccS G W fm ks T (r.bindS env k)) :
    AccA G W fm pl env σ H r fun _ d c m _ _ => AccS G W fm ks T (k d c m) := by
  cases r with
  | ok d c m => exact fun pl' v H' E' s q => h
  | exc k fs m => exact fun pl' cls dd H' E' s x => h cls dd pl' σ H' (env_back E s E') x
  | bad => exact h
theorem accS_bindB {r : RB} {k : Bool → Mem → Ctl} (E : EnvOk G fm pl env ks σ H) (h : AccS G W fm ks T (r.bindS env k)) :
    AccB G W fm pl env σ H r fun _ b m _ => AccS G W fm ks T (k b m) := by
  cases r with
  | ok d m => exact fun pl' H' E' s => h
  | exc k fs m => exact fun pl' cls dd H' E' s x => h cls dd pl' σ H' (env_back E s E') x
  | bad => exact h
theorem tE_st {ev : Q.X} {P : Pl → D → Cl → Mem → V → Hp → Prop} {P' : VK} (E : EnvOk G fm pl env ks σ H) (h : AccR G W fm pl env σ H (ev env) P)
    (m : ∀ pl' d c m v H', EnvOk G fm pl' (env.wm m) ks σ H' → Ext pl H pl' H' → FOk G fm pl' m H H' v d c → P pl' d c m v H' → P' v H') : tE G W ev σ H P' :=
  ⟨fm, pl, env, E.drop, h.imp fun pl' d c μ v H' E' s q x => m pl' d c μ v H' (env_back E s E') s q x⟩
theorem tA_st {ev : Q.XA} {P : Pl → List D → Bool → Mem → List V → Hp → Prop} {P' : List V → Hp → Prop} (E : EnvOk G fm pl env ks σ H) (h : AccA G W fm pl env σ H (ev env) P)
    (m : ∀ pl' ds t m vs H', EnvOk G fm pl' (env.wm m) ks σ H' → Ext pl H pl' H' → Reps G (ArgR fm pl' t) H' vs ds → P pl' ds t m vs H' → P' vs H') : tA G W ev σ H P' :=
  ⟨fm, pl, env, E.drop, h.imp fun pl' ds t μ vs H' E' s q x => m pl' ds t μ vs H' (env_back E s E') s q x⟩
theorem tT_st {ev : Q.XB} {P : Pl → Bool → Mem → Hp → Prop} {P' : Bool → Hp → Prop} (E : EnvOk G fm pl env ks σ H) (h : AccB G W fm pl env σ H (ev env) P)
    (m : ∀ pl' b m H', EnvOk G fm pl' (env.wm m) ks σ H' → Ext pl H pl' H' → P pl' b m H' → P' b H') : tT G W ev σ H P' :=
  ⟨fm, pl, env, E.drop, h.imp fun pl' d μ H' E' s x => m pl' d μ H' (env_back E s E') s x⟩
theorem accS_seq {r : Ctl} {k : Q.Env → Ctl} (h : AccS G W fm ks T (r.bind k)) {u : TS} (m : ∀ pl e σ H, EnvOk G fm pl e ks σ H → AccS G W fm ks T (k e) → u T σ H) : AccS G W fm ks { T with nx := u T } r := by
  cases r with
  | nx e => exact fun pl σ H E => m pl e σ H E h
  | bk e => exact h
  | ct e => exact h
  | rt d c e => exact h
  | exc k fs e => exact h
  | bad => exact h
theorem back_hot {e : Q.Env} {i j : Nat} {s0 s1 s : S} (hi : e.sl[i]? = some s0) (h0 : isHot s0) (h : (e.set i s1).sl[j]? = some s) (hh : isHot s) : ∃ s', e.sl[j]? = some s' ∧ isHot s' := by
  rcases get_set (show (e.sl.set i s1)[j]? = some s from h) with ⟨rfl, _, rfl⟩ | ⟨_, h⟩
  · exact ⟨s0, hi, h0⟩
  · exact ⟨s, h, hh⟩
theorem slot_nt {fm : Fm} {pl : Pl} {H : Hp} {s1 : S} {w : Option (Option V)} {p : Addr} {o : HO} (hσ : w = some (some (.ref p))) (h1 : isHot s1) (new : SlotOk G fm pl (L2.upd H p o) s1 w) : NT o := by
  have lv : Lv (L2.upd H p o) p := by
    subst hσ
    cases s1 with
    | hot d => obtain ⟨q, a, _, _, k⟩ := new; cases a; exact k.lv
    | slf c ds => obtain ⟨q, a, _, _, k⟩ := new; cases a; exact k.lv
    | _ => exact h1.elim
  exact fun xs z => lv.2 xs (by rw [upd_same, z])
/-- the object of a slot is written -/
theorem EnvOk.writeSlot {i : Nat} {s0 s1 : S} {p : Addr} {o : HO} (E : EnvOk G fm pl env ks σ H) (hi : env.sl[i]? = some s0) (h0 : isHot s0) (hσ : σ[i]? = some (some (.ref p))) (hp : p ∈ pl.hs) (h1 : isHot s1)
    (new : SlotOk G fm pl (L2.upd H p o) s1 σ[i]?) : EnvOk G fm pl (env.set i s1) ks σ (L2.upd H p o) where
  ex := E.exW (.inl hp)
  dom := fun a h => upd_dom (E.dom a h)
  tA := E.tA
  len := by
    show σ.length = (env.sl.set i s1).length
    rw [List.length_set]; exact E.len
  bor := E.bor
  c0 := E.c0
  mup := E.mup
  ms0 := E.ms0
  msh := E.msh
  hn := fun a m => ⟨(E.hn a m).1, upd_lv (slot_nt hσ h1 new) (E.hn a m).2⟩
  cn := fun a m => ⟨(E.cn a m).1, upd_lv (slot_nt hσ h1 new) (E.cn a m).2.1, (E.cn a m).2.2⟩
  mem := E.mem.sub (upd_cold (.inl hp)) rfl fun a m o e => upd_keep (fun z => (E.cn a m).2.2 (z ▸ hp)) e
  slot := fun j s q => by
    rcases get_set (show (env.sl.set i s1)[j]? = some s from q) with ⟨rfl, _, rfl⟩ | ⟨hne, q⟩
    · exact new
    · have sl := E.slot j s q
      cases s with
      | no => trivial
      | cold d =>
        obtain ⟨v, a, b⟩ := sl
        exact ⟨v, a, b.sub (upd_cold (.inl hp))⟩
      | hot d =>
        obtain ⟨q', a, b, n, k⟩ := sl
        have nq : q' ≠ p := fun z => hne (E.inj j i _ _ p q hi trivial h0 (z ▸ a) hσ)
        exact ⟨q', a, b, n, k.sub (upd_cold (.inl hp)) fun o e => upd_keep nq e⟩
      | slf c ds =>
        obtain ⟨q', a, b, n, k⟩ := sl
        have nq : q' ≠ p := fun z => hne (E.inj j i _ _ p q hi trivial h0 (z ▸ a) hσ)
        exact ⟨q', a, b, n, k.sub (upd_cold (.inl hp)) fun o e => upd_keep nq e⟩
      | bor d =>
        obtain ⟨v, a, b⟩ := sl
        exact ⟨v, a, b.sub ⟨fun a o h e => ⟨h, upd_keep (fun z => E.notBor (.inl hp) (z ▸ h)) e⟩, List.prefix_refl _⟩⟩
      | exn k fs =>
        obtain ⟨a, cls, dd, b, c, r⟩ := sl
        exact ⟨a, cls, dd, b, c, r.sub (upd_cold (.inl hp)) (upd_newr (.inl hp))⟩
  inj := fun j k s t q a b c d e f => by
    obtain ⟨s', a', c'⟩ := back_hot hi h0 a c
    obtain ⟨t', b', d'⟩ := back_hot hi h0 b d
    exact E.inj j k s' t' q a' b' c' d' e f
  fr := fun k m => (E.fr k m).sub (upd_cold (.inl hp))
theorem bind_sub {p : Addr} (s : Ext pl H pl1 H') (hp : H p = none) : Sub (Cold fm pl) H (Cold fm (pl1.addH p)) H' := ⟨fun a o h e => by
  obtain ⟨x, y⟩ := s.cold.go a o h e
  exact ⟨⟨x.1, fun m => by
    rcases List.mem_cons.mp m with z | m
    · rw [z, hp] at e; cases e
    · exact x.2.1 m, x.2.2⟩, y⟩, s.mu⟩
/-- a fresh object is bound to a name that will change it -/
theorem EnvOk.bindHot {i : Nat} {p : Addr} {d : D} (E : EnvOk G fm pl env ks σ H) (s : Ext pl H pl1 H') (live : ∀ a ∈ pl1.cs, Lv H' a) (hp : H p = none) (hc : p ∉ pl1.cs) (K : Con G ((Cold fm pl1).but p) H' p d) (M : MemOk G ((Cold fm pl1).but p) pl1.cs H' m) :
    EnvOk G fm (pl1.addH p) ((env.wm m).set i (.hot d)) ks (σ.set i (some (.ref p))) H' where
  ex := fun a o n q => s.keep a o (E.ex a o n q) fun z => (E.cn a z).1.elim (fun z => n (E.c0 a z)) fun z => by rw [z] at q; cases q
  dom := fun a h => s.dom a (E.dom a h)
  tA := E.tA
  len := by
    show (σ.set i _).length = (env.sl.set i _).length
    rw [List.length_set, List.length_set]; exact E.len
  bor := E.bor
  c0 := E.c0
  mup := E.mup.trans s.mu
  ms0 := E.ms0
  msh := fun a m => (E.msh a m).imp (fun h => List.mem_cons_of_mem _ (by rw [s.hs]; exact h)) id
  hn := fun a m => by
    rcases List.mem_cons.mp m with rfl | m
    · exact ⟨.inr (E.newH0 hp), K.lv⟩
    · rw [s.hs] at m
      exact ⟨(E.hn a m).1, (E.hn a m).2.keep fun o z => s.keep a o z fun q => (E.cn a q).2.2 m⟩
  cn := fun a m => by
    refine ⟨(s.cs a m).elim (fun z => (E.cn a z).1) fun z => .inr (E.newH0 z), live a m, fun z => ?_⟩
    rcases List.mem_cons.mp z with rfl | z
    · exact hc m
    · rw [s.hs] at z
      exact (s.cs a m).elim (fun q => (E.cn a q).2.2 z) fun q => E.newHs q z
  mem := M.sub ⟨fun a o h e => ⟨⟨h.1.1, fun m => by
    rcases List.mem_cons.mp m with z | m
    · exact h.2 z
    · exact h.1.2.1 m, h.1.2.2⟩, e⟩, List.prefix_refl _⟩ rfl fun a _ o e => e
  slot := fun j t q => by
    rcases get_set (show (env.sl.set i _)[j]? = some t from q) with ⟨rfl, hl, rfl⟩ | ⟨hne, q⟩
    · rw [List.getElem?_set_self (by rw [E.len]; exact hl)]
      exact ⟨p, rfl, List.mem_cons_self, E.newH0 hp, K.sub ⟨fun a o h e => ⟨⟨h.1.1, fun m => by
        rcases List.mem_cons.mp m with z | m
        · exact h.2 z
        · exact h.1.2.1 m, h.1.2.2⟩, e⟩, List.prefix_refl _⟩ fun o e => e⟩
    · rw [List.getElem?_set_ne (fun z => hne z.symm)]
      refine SlotOk.sub (E.slot j t q) (bind_sub s hp) (fun a m => List.mem_cons_of_mem _ (by rw [s.hs]; exact m)) (fun a m o e => s.keep a o e fun z => (E.cn a z).2.2 m) (fun a o b e => s.keep a o e (E.borC b)) fun a o n e => ?_
      obtain ⟨x, y⟩ := s.new a o n e
      exact ⟨⟨x.1, fun m => by
        rcases List.mem_cons.mp m with z | m
        · rw [z, hp] at e; cases e
        · exact x.2.1 m, x.2.2⟩, y⟩
  inj := fun j k s' t q a b c d' e f => by
    have old : ∀ {n : Nat} {t : S}, ((env.wm m).set i (.hot d)).sl[n]? = some t → isHot t → (σ.set i (some (.ref p)))[n]? = some (some (.ref q)) → (n = i ∧ q = p) ∨ (n ≠ i ∧ q ≠ p ∧ env.sl[n]? = some t ∧ σ[n]? = some (some (.ref q))) := fun {n t} h hh hσ => by
      rcases get_set (show (env.sl.set i _)[n]? = some t from h) with ⟨rfl, hl, rfl⟩ | ⟨hne, h⟩
      · rw [List.getElem?_set_self (by rw [E.len]; exact hl)] at hσ
        exact .inl ⟨rfl, by simpa using hσ.symm⟩
      · rw [List.getElem?_set_ne (fun z => hne z.symm)] at hσ
        refine .inr ⟨hne, fun z => ?_, h, hσ⟩
        subst z
        have sl := E.slot n t h
        cases t with
        | hot d =>
          obtain ⟨q', a, b, n, c⟩ := sl
          rw [hσ] at a; cases a
          exact E.newHs hp b
        | slf k ds =>
          obtain ⟨q', a, b, n, c⟩ := sl
          rw [hσ] at a; cases a
          exact E.newHs hp b
        | _ => exact hh
    rcases old a c e with ⟨r1, r2⟩ | ⟨r1, r2, r3, r4⟩ <;> rcases old b d' f with ⟨u1, u2⟩ | ⟨u1, u2, u3, u4⟩
    · rw [r1, u1]
    · exact absurd r2 u2
    · exact absurd u2 r2
    · exact E.inj j k s' t q r3 u3 c d' r4 u4
  fr := fun k m => (E.fr k m).sub (bind_sub s hp)
/-- a thing of the frame's is changed no more -/
theorem EnvOk.freeze {i : Nat} {d : D} (E : EnvOk G fm pl env ks σ H) (hi : env.sl[i]? = some (.hot d)) : ∃ pl', EnvOk G fm pl' (env.set i (.cold d)) ks σ H := by
  obtain ⟨p, hσ, hp, hn0, K⟩ := E.slot i _ hi
  have hpc : p ∉ pl.cs := fun m => (E.cn p m).2.2 hp
  have ms : ∀ a, a ∈ pl.hs.filter (fun a => decide (a ≠ p)) → a ∈ pl.hs := fun a h => (List.mem_filter.mp h).1
  have m : Sub (Cold fm pl) H (Cold fm ⟨pl.hs.filter fun a => decide (a ≠ p), pl.cs, pl.mu⟩) H := ⟨fun a o h e => ⟨⟨h.1, fun z => h.2.1 (ms a z), h.2.2⟩, e⟩, List.prefix_refl _⟩
  have mn : ∀ a o, New fm pl a → H a = some o → New fm ⟨pl.hs.filter fun a => decide (a ≠ p), pl.cs, pl.mu⟩ a ∧ H a = some o := fun a o h e => ⟨⟨h.1, fun z => h.2.1 (ms a z), h.2.2⟩, e⟩
  have pm : p ∉ fm.ms := fun z => E.ms0 p z hn0
  refine ⟨⟨pl.hs.filter fun a => decide (a ≠ p), pl.cs, pl.mu⟩, ?_⟩
  exact {
    ex := E.ex
    dom := E.dom
    tA := E.tA
    len := by
      show σ.length = (env.sl.set i _).length
      rw [List.length_set]; exact E.len
    bor := E.bor
    c0 := E.c0
    mup := E.mup
    ms0 := E.ms0
    msh := fun a h => (E.msh a h).imp (fun z => List.mem_filter.mpr ⟨z, decide_eq_true fun q => pm (q ▸ h)⟩) id
    hn := fun a h => E.hn a (ms a h)
    cn := fun a h => ⟨(E.cn a h).1, (E.cn a h).2.1, fun z => (E.cn a h).2.2 (ms a z)⟩
    mem := E.mem.sub m rfl fun a _ o e => e
    slot := fun j s q => by
      rcases get_set (show (env.sl.set i _)[j]? = some s from q) with ⟨rfl, _, rfl⟩ | ⟨hne, q⟩
      · exact ⟨.ref p, hσ, (K.sub m fun o e => e).rep ⟨.inr (.inl hn0), fun z => by simpa using (List.mem_filter.mp z).2, hpc⟩⟩
      · have sl := E.slot j s q
        cases s with
        | no => trivial
        | cold d =>
          obtain ⟨v, a, b⟩ := sl
          exact ⟨v, a, b.sub m⟩
        | hot es =>
          obtain ⟨q', a, b, n, c⟩ := sl
          have nq : q' ≠ p := fun z => hne (E.inj j i _ _ p q hi trivial trivial (z ▸ a) hσ)
          exact ⟨q', a, List.mem_filter.mpr ⟨b, decide_eq_true nq⟩, n, c.sub m fun o e => e⟩
        | slf k es =>
          obtain ⟨q', a, b, n, c⟩ := sl
          have nq : q' ≠ p := fun z => hne (E.inj j i _ _ p q hi trivial trivial (z ▸ a) hσ)
          exact ⟨q', a, List.mem_filter.mpr ⟨b, decide_eq_true nq⟩, n, c.sub m fun o e => e⟩
        | bor d => exact sl
        | exn k fs =>
          obtain ⟨a, cls, dd, b, c, r⟩ := sl
          exact ⟨a, cls, dd, b, c, r.sub m mn⟩
    inj := fun j k s t q a b c d' e f => by
      have old : ∀ {n : Nat} {t : S}, (env.set i (.cold d)).sl[n]? = some t → isHot t → env.sl[n]? = some t := fun {n t} h hh => by
        rcases get_set (show (env.sl.set i _)[n]? = some t from h) with ⟨rfl, hl, rfl⟩ | ⟨hne, h⟩
        · exact hh.elim
        · exact h
      exact E.inj j k s t q (old a c) (old b d') c d' e f
    fr := fun k h => (E.fr k h).sub m }
end
end QW

set_option Elab.async false
set_option linter.all false
set_option maxRecDepth 100000
set_option maxHeartbeats 4000000
namespace QW
open PySem PySem.Spec PyProof.Rows L2
open Q (D S R RA RB Ctl Cl Pat Mem)
section
variable {X : Cx} {W : WX} {G : Cfg} {st : Stmt} {rest : List Stmt} {pos : Pos} {sa sb : Q.XS} {e a b : Expr} {ea eb : Q.X} {eas : Q.XA} {tt : Q.XB}
/-- a statement that is never come to -/
theorem s_bad : PS X st (tS G W Q.sbad) := ⟨fun pins s σ H T I ⟨_, _, _, _, _, acc⟩ => acc.elim⟩
theorem s_nil : PSs X [] (tS G W Q.snop) := PSs.conv pss_nil fun T σ H ⟨fm, pl, env, ks, E, acc⟩ => acc pl σ H E
theorem s_cons (h1 : PS X st (tS G W sa)) (h2 : PSs X rest (tS G W sb)) : PSs X (st :: rest) (tS G W (Q.seq sa sb)) :=
  PSs.conv (pss_cons h1 h2) fun T σ H ⟨fm, pl, env, ks, E, acc⟩ => ⟨fm, pl, env, ks, E, accS_seq acc fun pl' e σ' H' E' acc' => ⟨fm, pl', e, ks, E', acc'⟩⟩
theorem s_one (h1 : PS X st (tS G W sa)) : PSs X [st] (tS G W sa) := pss_one h1
theorem s_ghost {i : Nat} (h : PSs X rest (tS G W sb)) : PSs X rest (tS G W (Q.seq (Q.sfreeze i) sb)) :=
  PSs.conv h fun T σ H ⟨fm, pl, env, ks, E, acc⟩ => by
    have e : Q.seq (Q.sfreeze i) sb env = (Q.sfS i env (env.sl[i]?)).bind sb := rfl
    rw [e] at acc
    cases q : env.sl[i]? with
    | none => rw [q] at acc; exact acc.elim
    | some s =>
      rw [q] at acc
      cases s with
      | hot d =>
        obtain ⟨pl', E'⟩ := E.freeze q
        exact ⟨fm, pl', _, ks, E', acc⟩
      | _ => exact acc.elim
theorem s_pass : PS X (.Pass pos) (tS G W Q.snop) := PS.conv ps_pass fun T σ H ⟨fm, pl, env, ks, E, acc⟩ => acc pl σ H E
theorem s_break : PS X (.Break pos) (tS G W Q.sbrk) := PS.conv ps_break fun T σ H ⟨fm, pl, env, ks, E, acc⟩ => acc pl σ H E
theorem s_cont : PS X (.Continue pos) (tS G W Q.scnt) := PS.conv ps_continue fun T σ H ⟨fm, pl, env, ks, E, acc⟩ => acc pl σ H E
theorem accS_if {t : Bool} {x y : Ctl} {fm : Fm} {ks : List (V × D)} {T : Ends} (h : AccS G W fm ks T (if t = true then x else y)) : AccS G W fm ks T (match t with
    | true => x
    | false => y) := by cases t <;> simpa using h
/-- the value is kept as it is -/
theorem accS_clean {dd : Bool} {y : Ctl} {fm : Fm} {ks : List (V × D)} {T : Ends} (h : AccS G W fm ks T (if dd = true then .bad else y)) : dd = false ∧ AccS G W fm ks T y := by
  cases dd with
  | true => rw [if_pos rfl] at h; exact h.elim
  | false => rw [if_neg (by simp)] at h; exact ⟨rfl, h⟩
theorem set_reads {i : Nat} {T : Ends} {σ : L2.St} {H : Hp} (h : tS G W (Q.sset i ea) T σ H) : tAsg (tE G W ea) (gName i) T σ H := by
  obtain ⟨fm, pl, env, ks, E, acc⟩ := h
  refine tE_st E (accS_bind E acc) fun pl1 d c m1 v H1 E1 s1 o1 acc1 => ?_
  obtain ⟨hd, acc2⟩ := accS_clean acc1
  exact acc2 pl1 _ _ (E1.setCold (o1.clean hd) i)
theorem hot_reads {i : Nat} {T : Ends} {σ : L2.St} {H : Hp} (h : tS G W (Q.shot i ea) T σ H) : tAsg (tE G W ea) (gName i) T σ H := by
  obtain ⟨fm, pl, env, ks, E, acc⟩ := h
  refine tE_st E (accS_bind E acc) fun pl1 d c m1 v H1 E1 s1 o1 acc1 => ?_
  cases c with
  | fresh =>
    obtain ⟨p, rfl, hp, hc, K, M⟩ := o1
    exact acc1 (pl1.addH p) _ _ (E.bindHot (i := i) s1 (fun a m => (E1.cn a m).2.1) hp hc.2.2 K M)
  | _ => exact acc1.elim
section
variable {i : Nat} {x : Str} {pos' : Pos}
theorem s_set (hN : X.N.Nodup) (he : PE X e (tE G W ea)) (hi : X.N[i]? = some x := by rfl) (hx : Loc X.env.scope x := by first | exact .inl rfl | exact .inr rfl)
    (hs : swapsWith e (some (.Name x pos')) pos.line X.env = pure false := by rfl) (hf : X.fn x = true ∨ X.env.scope.names.lookup x = some .local := by first | exact .inl rfl | exact .inr rfl) :
    PS X (.Assign [.Name x pos'] e pos) (tS G W (Q.sset i ea)) := PS.conv (ps_set hN hi hx he hs hf) fun _ _ _ h => set_reads h
theorem s_hot (hN : X.N.Nodup) (he : PE X e (tE G W ea)) (hi : X.N[i]? = some x := by rfl) (hx : Loc X.env.scope x := by first | exact .inl rfl | exact .inr rfl)
    (hs : swapsWith e (some (.Name x pos')) pos.line X.env = pure false := by rfl) (hf : X.fn x = true ∨ X.env.scope.names.lookup x = some .local := by first | exact .inl rfl | exact .inr rfl) :
    PS X (.Assign [.Name x pos'] e pos) (tS G W (Q.shot i ea)) := PS.conv (ps_set hN hi hx he hs hf) fun _ _ _ h => hot_reads h
end
section
variable {elt tg iter : Expr} {ifs : List Expr} {scope : Scope} {own : List (Str × Nat)} {spos py : Pos} {ev : Q.XI} {p : Pat} {te : Q.X} {vs : List Nat} {i : Nat} {y : Str}
theorem s_setLc (hc : X.calm = true) (hN : X.N.Nodup) (hi : PI X tg iter (tI G ev)) (ok : BlkOk X.N X.env.scope scope own)
    (hg : ∀ (s : Shared) (H : Hp) (C : Addr) (cl : List (Str × Addr)) (fp : List Addr), PG (X.blk s H scope (compEnvC scope cl C X.env) fp) tg (tG G p))
    (ht : ∀ (s : Shared) (H : Hp) (C : Addr) (cl : List (Str × Addr)) (fp : List Addr), PTs (X.blk s H scope (compEnvC scope cl C X.env) fp) ifs (tT G noW tt))
    (he : ∀ (s : Shared) (H : Hp) (C : Addr) (cl : List (Str × Addr)) (fp : List Addr), PE (X.blk s H scope (compEnvC scope cl C X.env) fp) elt (tE G noW te))
    (hy : X.N[i]? = some y := by rfl) (hyl : X.env.scope.names.lookup y = some .local := by rfl)
    (hsw : swapsWith (.ListComp elt [⟨tg, iter, ifs, 0⟩] scope pos) (some (.Name y py)) spos.line X.env = pure true := by exact sw_true rfl rfl rfl (by decide +kernel))
    (hvs : own.map (·.2) = vs := by rfl) (hsub : ∀ i ∈ Pat.slots p, i ∈ vs := by decide) (hs : ∀ x, foldedSetIterable iter X.env x = pure x := by intro _; rfl) :
    PS X (.Assign [.Name y py] (.ListComp elt [⟨tg, iter, ifs, 0⟩] scope pos) spos) (tS G W (Q.sset i (Q.lc vs ev p tt te))) := by
  subst hvs
  refine PS.conv (ps_setLc (i := i) hc hN hy hyl hsw hi ok hg ht he hs) fun T σ H h => ?_
  exact lc_reads (W := W) hsub (set_reads h)
theorem s_hotLc (hc : X.calm = true) (hN : X.N.Nodup) (hi : PI X tg iter (tI G ev)) (ok : BlkOk X.N X.env.scope scope own)
    (hg : ∀ (s : Shared) (H : Hp) (C : Addr) (cl : List (Str × Addr)) (fp : List Addr), PG (X.blk s H scope (compEnvC scope cl C X.env) fp) tg (tG G p))
    (ht : ∀ (s : Shared) (H : Hp) (C : Addr) (cl : List (Str × Addr)) (fp : List Addr), PTs (X.blk s H scope (compEnvC scope cl C X.env) fp) ifs (tT G noW tt))
    (he : ∀ (s : Shared) (H : Hp) (C : Addr) (cl : List (Str × Addr)) (fp : List Addr), PE (X.blk s H scope (compEnvC scope cl C X.env) fp) elt (tE G noW te))
    (hy : X.N[i]? = some y := by rfl) (hyl : X.env.scope.names.lookup y = some .local := by rfl)
    (hsw : swapsWith (.ListComp elt [⟨tg, iter, ifs, 0⟩] scope pos) (some (.Name y py)) spos.line X.env = pure true := by exact sw_true rfl rfl rfl (by decide +kernel))
    (hvs : own.map (·.2) = vs := by rfl) (hsub : ∀ i ∈ Pat.slots p, i ∈ vs := by decide) (hs : ∀ x, foldedSetIterable iter X.env x = pure x := by intro _; rfl) :
    PS X (.Assign [.Name y py] (.ListComp elt [⟨tg, iter, ifs, 0⟩] scope pos) spos) (tS G W (Q.shot i (Q.lc vs ev p tt te))) := by
  subst hvs
  refine PS.conv (ps_setLc (i := i) hc hN hy hyl hsw hi ok hg ht he hs) fun T σ H h => ?_
  exact lc_reads (W := W) hsub (hot_reads h)
end
theorem s_unp {es : List Expr} {k : Nat} {is : List Nat} {tpos : Pos} (he : PE X e (tE G W ea)) (hg : PG X (.Tuple es k tpos) (tG G (.tp is)))
    (hs : swapsWithSole [.Tuple es k tpos] e pos.line X.env = pure false := by rfl) (hw : swappedStores [.Tuple es k tpos] e X.env = pure none := by rfl)
    (h1 : (assignEach [.Tuple es k tpos] X.env).map (·.2) = [assign (.Tuple es k tpos) X.env] := by rfl) : PS X (.Assign [.Tuple es k tpos] e pos) (tS G W (Q.sunp is ea)) :=
  PS.conv (ps_asg he hg hs hw h1) fun T σ H ⟨fm, pl, env, ks, E, acc⟩ => tE_st E (accS_bind E acc) fun pl1 d c m1 v H1 E1 s1 o1 acc1 => by
    obtain ⟨hd, acc2⟩ := accS_clean acc1
    cases q : Q.Pat.put (.tp is) d (env.wm m1) with
    | none => rw [q] at acc2; exact acc2.elim
    | some e1 =>
      rw [q] at acc2
      exact ⟨fm, pl1, _, ks, d, e1, E1, o1.clean hd, q, fun σ' E' _ => acc2 pl1 σ' H1 E'⟩
/-- a, b = x, y -/
theorem s_par {i j : Nat} {x y : Str} {px py pt : Pos} {kt k2 pt2} (hc : X.calm = true) (hN : X.N.Nodup) (ha : PE X a (tE G W ea)) (hb : PE X b (tE G W eb)) (hi : X.N[i]? = some x := by rfl) (hj : X.N[j]? = some y := by rfl) (hij : i ≠ j := by decide)
    (hx : X.env.scope.names.lookup x = some .local := by rfl) (hy : X.env.scope.names.lookup y = some .local := by rfl)
    (hw : swappedStores [.Tuple [.Name x px, .Name y py] kt pt] (.Tuple [a, b] k2 pt2) X.env = pure (some [x, y]) := by rfl)
    (hs : swapsWithSole [.Tuple [.Name x px, .Name y py] kt pt] (.Tuple [a, b] k2 pt2) pos.line X.env = pure false := by rfl)
    (h1 : starEach (a :: [b]) X.env = (false, eval a X.env) :: starEach [b] X.env := by rfl) (h2 : starEach (b :: []) X.env = (false, eval b X.env) :: starEach [] X.env := by rfl) :
    PS X (.Assign [.Tuple [.Name x px, .Name y py] kt pt] (.Tuple [a, b] k2 pt2) pos) (tS G W (Q.spar i j ea eb)) :=
  PS.conv (ps_par hc hN hi hj hij hx hy (pa_cons ha (pa_cons hb pa_nil h2) h1) hw hs) fun T σ H ⟨fm, pl, env, ks, E, acc⟩ => by
    refine tE_st E (accS_bind E acc) fun pl1 d c m1 v H1 E1 s1 o1 acc1 => tE_st E1 (accS_bind E1 acc1) fun pl2 d2 c2 m2 v2 H2 E2 s2 o2 acc2 => ⟨v, v2, rfl, ?_⟩
    obtain ⟨hd, acc3⟩ := accS_clean acc2
    rw [Bool.or_eq_false_iff] at hd
    exact acc3 pl2 _ _ ((E2.setCold ((o1.clean hd.1).sub s2.cold) i).setCold (o2.clean hd.2) j)
/-- x op= a -/
theorem s_aug {i : Nat} {x : Str} {op : Operator} {r : R2} {f : D → D → Option D} {pos' : Pos} (ho : OpR X (inplaceOp op) r) (hf : OpD G r f) (hN : X.N.Nodup) (he : PE X e (tE G W ea)) (hi : X.N[i]? = some x := by rfl) (hx : Loc X.env.scope x := by first | exact .inl rfl | exact .inr rfl)
    (hfn : X.fn x = true ∨ X.env.scope.names.lookup x = some .local := by first | exact .inl rfl | exact .inr rfl) : PS X (.AugAssign (.Name x pos') op e pos) (tS G W (Q.saug i f ea)) :=
  PS.conv (ps_aug (ti := r) hN hi hx he ho hfn) fun T σ H ⟨fm, pl, env, ks, E, acc⟩ => by
    have e : Q.saug i f ea env = Q.saS i f ea env (env.sl[i]?) := rfl
    rw [e] at acc
    cases q : env.sl[i]? with
    | none => rw [q] at acc; exact acc.elim
    | some s =>
      rw [q] at acc
      cases s with
      | cold d0 =>
        have acc : AccS G W fm ks T ((ea env).bindS env fun y _ m => Q.saT i (env.wm m) (f d0 y)) := acc
        obtain ⟨v0, hσ, r0⟩ := E.slot i _ q
        refine ⟨v0, hσ, tE_st E (accS_bind E acc) fun pl1 d c m1 v H1 E1 s1 o1 acc1 => ?_⟩
        cases z : f d0 d with
        | none => rw [z] at acc1; exact acc1.elim
        | some y =>
          rw [z] at acc1
          obtain ⟨sz, k⟩ := hf d0 d y z
          obtain ⟨vz, rz, k⟩ := k (TR fm pl1) H1 v0 v ((r0.sub s1.cold).sub cold_tr) o1.anyR
          exact k _ (acc1 pl1 _ _ (E1.setCold (rz.scalar sz) i))
      | _ => exact acc.elim
theorem s_expr (he : PE X e (tE G W ea)) (hs : swapsWith e none pos.line X.env = pure false := by rfl) : PS X (.Expr e pos) (tS G W (Q.sexpr ea)) :=
  PS.conv (ps_expr he hs) fun T σ H ⟨fm, pl, env, ks, E, acc⟩ => tE_st E (accS_bind E acc) fun pl1 d c m1 v H1 E1 s1 o1 acc1 => acc1 pl1 σ H1 E1
theorem s_if {c : Expr} {ba bb : List Stmt} (hc : PT X c (tT G W tt)) (ha : PSs X ba (tS G W sa)) (hb : PSs X bb (tS G W sb)) : PS X (.If c ba bb pos) (tS G W (Q.sif tt sa sb)) :=
  PS.conv (ps_if hc ha hb) fun T σ H ⟨fm, pl, env, ks, E, acc⟩ => tT_st E (accS_bindB E acc) fun pl1 k m1 H1 E1 s1 acc1 => by
    cases k with
    | true => exact ⟨fm, pl1, _, ks, E1, acc1⟩
    | false => exact ⟨fm, pl1, _, ks, E1, acc1⟩
theorem s_ret (he : PE X e (tE G W ea)) : PS X (.Return (some e) pos) (tS G W (Q.sret ea)) :=
  PS.conv (ps_ret he) fun T σ H ⟨fm, pl, env, ks, E, acc⟩ => tE_st E (accS_bind E acc) fun pl1 d c m1 v H1 E1 s1 o1 acc1 => acc1 v pl1 σ H1 E1 (rtv_of E o1)
theorem s_retN : PS X (.Return none pos) (tS G W Q.sretN) := PS.conv ps_retN fun T σ H ⟨fm, pl, env, ks, E, acc⟩ => acc .non pl σ H E Rep.non
/-! ### lists that the frame changes -/
theorem hot_slot {i : Nat} {env : Q.Env} {fm : Fm} {ks : List (V × D)} {T : Ends} {k : Option S → Ctl} (h : AccS G W fm ks T (k (env.sl[i]?))) (n0 : k none = .bad) (n1 : ∀ s, (∀ d, s ≠ .hot d) → k (some s) = .bad) : ∃ d, env.sl[i]? = some (.hot d) ∧ AccS G W fm ks T (k (some (.hot d))) := by
  cases q : env.sl[i]? with
  | none => rw [q, n0] at h; exact h.elim
  | some s =>
    rw [q] at h
    cases s with
    | hot d => exact ⟨d, rfl, h⟩
    | no => rw [n1 (.no) fun d z => by cases z] at h; exact h.elim
    | cold d => rw [n1 (.cold d) fun d z => by cases z] at h; exact h.elim
    | slf c d => rw [n1 (.slf c d) fun d z => by cases z] at h; exact h.elim
    | bor d => rw [n1 (.bor d) fun d z => by cases z] at h; exact h.elim
    | exn c d => rw [n1 (.exn c d) fun d z => by cases z] at h; exact h.elim
theorem s_app {i : Nat} {x : Str} {px pa pc : Pos} (he : PE X e (tE G W ea)) (hN : X.N[i]? = some x := by rfl) (hv : Vis X.env.scope x := by first | exact Or.inl rfl | exact Or.inr (Or.inl rfl) | exact Or.inr (Or.inr rfl))
    (hd : (x == ("__debug__" : Str)) = false := by decide) (hcd : (x == ("__classdict__" : Str)) = false := by decide)
    (hbase : attributeBase (.Name x px) "append" X.env (eval (.Name x px) X.env) = eval (.Name x px) X.env := by rfl)
    (hfew : ((backTo pc (starEach (e :: []) X.env)).all (fun x => !x.1) && (backToKw pc (keywordEach [] X.env)).all (fun x => x.1.isSome)
      && decide ((e :: []).length + ([] : List Keyword).length + (if ([] : List Keyword).isEmpty then 0 else 1) < 30)) = true := by rfl)
    (hline : (pa.endLine == pc.line) = true := by rfl) (hst : starEach (e :: []) X.env = (false, eval e X.env) :: starEach [] X.env := by rfl) (hplain : (backTo pc (starEach [] X.env)).any (·.1) = false := by rfl)
    (hs : swapsWith (.Call (.Attribute (.Name x px) "append" pa) [e] [] pc) none pos.line X.env = pure false := by rfl) :
    PS X (.Expr (.Call (.Attribute (.Name x px) "append" pa) [e] [] pc) pos) (tS G W (Q.sapp i ea)) :=
  PS.conv (ps_expr (pe_bm PySem.F.plainAttrs_list PySem.F.slot_list_append PySem.F.type_list_append mt_append (pv i hN hv hd hcd) (pa_cons he pa_nil hst) hbase hfew hline hst hplain) hs) fun T σ H ⟨fm, pl, env, ks, E, acc⟩ => by
    obtain ⟨d0, q, acc⟩ := hot_slot (k := Q.spS i ea env) acc rfl (fun s hs => by cases s <;> first | rfl | exact absurd rfl (hs _))
    cases d0 with
    | lst ds =>
      obtain ⟨p, hσ, hp, hn0, vs, hH, rr⟩ := E.slot i _ q
      have hpc : p ∉ pl.cs := fun m => (E.cn p m).2.2 hp
      have acc : AccS G W fm ks T ((ea env).bindS env fun d c m => if Q.dirty c d = true then .bad else Q.spT i (env.wm m) ds d) := acc
      refine ⟨_, hσ, .inl ⟨rfl, _, SqL.of hH⟩, tE_st E (accS_bind E acc) fun pl1 d c m1 v H1 E1 s1 o1 acc1 => ?_⟩
      obtain ⟨hd, acc2⟩ := accS_clean acc1
      have acc2 : AccS G W fm ks T (if ds.length < Q.most then .nx ((env.wm m1).set i (.hot (.lst (ds ++ [d])))) else .bad) := acc2
      by_cases hm : ds.length < Q.most
      · rw [if_pos hm] at acc2
        have hp1 : p ∈ pl1.hs := by rw [s1.hs]; exact hp
        refine ⟨p, vs, v, rfl, rfl, s1.keep _ _ hH hpc, most_lt (by rw [rr.1]; exact hm), acc2 pl1 _ _ (E1.writeSlot (s0 := .hot (.lst ds)) q trivial hσ hp1 trivial ?_)⟩
        exact ⟨p, hσ, hp1, hn0, vs ++ [v], upd_same, ((rr.sub s1.cold).append (Reps.cons (o1.clean hd) Reps.nil)).sub (upd_cold (.inl hp1))⟩
      · rw [if_neg hm] at acc2; exact acc2.elim
    | _ => exact acc.elim
theorem s_ext {i : Nat} {x : Str} {px pa pc : Pos} (he : PE X e (tE G W ea)) (hN : X.N[i]? = some x := by rfl) (hv : Vis X.env.scope x := by first | exact Or.inl rfl | exact Or.inr (Or.inl rfl) | exact Or.inr (Or.inr rfl))
    (hd : (x == ("__debug__" : Str)) = false := by decide) (hcd : (x == ("__classdict__" : Str)) = false := by decide)
    (hbase : attributeBase (.Name x px) "extend" X.env (eval (.Name x px) X.env) = eval (.Name x px) X.env := by rfl)
    (hfew : ((backTo pc (starEach (e :: []) X.env)).all (fun x => !x.1) && (backToKw pc (keywordEach [] X.env)).all (fun x => x.1.isSome)
      && decide ((e :: []).length + ([] : List Keyword).length + (if ([] : List Keyword).isEmpty then 0 else 1) < 30)) = true := by rfl)
    (hline : (pa.endLine == pc.line) = true := by rfl) (hst : starEach (e :: []) X.env = (false, eval e X.env) :: starEach [] X.env := by rfl) (hplain : (backTo pc (starEach [] X.env)).any (·.1) = false := by rfl)
    (hs : swapsWith (.Call (.Attribute (.Name x px) "extend" pa) [e] [] pc) none pos.line X.env = pure false := by rfl) :
    PS X (.Expr (.Call (.Attribute (.Name x px) "extend" pa) [e] [] pc) pos) (tS G W (Q.sext i ea)) :=
  PS.conv (ps_expr (pe_bm PySem.F.plainAttrs_list PySem.F.slot_list_extend PySem.F.type_list_extend mt_extend (pv i hN hv hd hcd) (pa_cons he pa_nil hst) hbase hfew hline hst hplain) hs) fun T σ H ⟨fm, pl, env, ks, E, acc⟩ => by
    obtain ⟨d0, q, acc⟩ := hot_slot (k := Q.sxS i ea env) acc rfl (fun s hs => by cases s <;> first | rfl | exact absurd rfl (hs _))
    cases d0 with
    | lst ds =>
      obtain ⟨p, hσ, hp, hn0, vs, hH, rr⟩ := E.slot i _ q
      have hpc : p ∉ pl.cs := fun m => (E.cn p m).2.2 hp
      have acc : AccS G W fm ks T ((ea env).bindS env fun d c m => Q.sxT i (env.wm m) ds c d) := acc
      refine ⟨_, hσ, .inl ⟨rfl, _, SqL.of hH⟩, tE_st E (accS_bind E acc) fun pl1 d c m1 v H1 E1 s1 o1 acc1 => ?_⟩
      have go : ∃ ys, d = .lst ys ∧ Rep G (Cold fm pl1) H1 v (.lst ys) ∧ AccS G W fm ks T (if ds.length + ys.length ≤ Q.most then .nx ((env.wm m1).set i (.hot (.lst (ds ++ ys)))) else .bad) := by
        cases c with
        | fresh =>
          cases d with
          | lst ys => exact ⟨ys, rfl, o1.clean rfl, acc1⟩
          | _ => exact acc1.elim
        | cold =>
          cases d with
          | lst ys => exact ⟨ys, rfl, o1, acc1⟩
          | _ => exact acc1.elim
        | _ => cases d <;> exact acc1.elim
      obtain ⟨ys, rfl, r, acc2⟩ := go
      by_cases hm : ds.length + ys.length ≤ Q.most
      · rw [if_pos hm] at acc2
        obtain ⟨p2, rfl⟩ := r.lst_inv
        obtain ⟨us, e2, _, r2⟩ := r.lstSq
        have hp1 : p ∈ pl1.hs := by rw [s1.hs]; exact hp
        refine ⟨p, p2, vs, us, rfl, rfl, s1.keep _ _ hH hpc, e2, most_line (by rw [rr.1, r2.1]; exact hm), acc2 pl1 _ _ (E1.writeSlot (s0 := .hot (.lst ds)) q trivial hσ hp1 trivial ?_)⟩
        exact ⟨p, hσ, hp1, hn0, vs ++ us, upd_same, ((rr.sub s1.cold).append r2).sub (upd_cold (.inl hp1))⟩
      · rw [if_neg hm] at acc2; exact acc2.elim
    | _ => exact acc.elim
theorem s_clear {i : Nat} {x : Str} {px pa pc : Pos} (hN : X.N[i]? = some x := by rfl) (hv : Vis X.env.scope x := by first | exact Or.inl rfl | exact Or.inr (Or.inl rfl) | exact Or.inr (Or.inr rfl))
    (hd : (x == ("__debug__" : Str)) = false := by decide) (hcd : (x == ("__classdict__" : Str)) = false := by decide)
    (hbase : attributeBase (.Name x px) "clear" X.env (eval (.Name x px) X.env) = eval (.Name x px) X.env := by rfl) (hline : (pa.endLine == pc.line) = true := by rfl)
    (hs : swapsWith (.Call (.Attribute (.Name x px) "clear" pa) [] [] pc) none pos.line X.env = pure false := by rfl) :
    PS X (.Expr (.Call (.Attribute (.Name x px) "clear" pa) [] [] pc) pos) (tS G W (Q.sclear i)) :=
  PS.conv (ps_expr (pe_bm0 PySem.F.plainAttrs_list PySem.F.slot_list_clear PySem.F.type_list_clear mt_clear (pv i hN hv hd hcd) hbase hline) hs) fun T σ H ⟨fm, pl, env, ks, E, acc⟩ => by
    obtain ⟨d0, q, acc⟩ := hot_slot (k := Q.scS i env) acc rfl (fun s hs => by cases s <;> first | rfl | exact absurd rfl (hs _))
    cases d0 with
    | lst ds =>
      obtain ⟨p, hσ, hp, hn0, vs, hH, rr⟩ := E.slot i _ q
      have acc : AccS G W fm ks T (.nx (env.set i (.hot (.lst [])))) := acc
      exact ⟨_, hσ, .inl ⟨rfl, _, SqL.of hH⟩, p, vs, rfl, rfl, hH, acc pl _ _ (E.writeSlot (s0 := .hot (.lst ds)) q trivial hσ hp trivial ⟨p, hσ, hp, hn0, [], upd_same, Reps.nil⟩)⟩
    | _ => exact acc.elim
theorem s_put {i : Nat} {x : Str} {px tpos : Pos} (he : PE X e (tE G W ea)) (hb : PE X b (tE G W eb)) (hN : X.N[i]? = some x := by rfl) (hv : Vis X.env.scope x := by first | exact Or.inl rfl | exact Or.inr (Or.inl rfl) | exact Or.inr (Or.inr rfl))
    (hd : (x == ("__debug__" : Str)) = false := by decide) (hcd : (x == ("__classdict__" : Str)) = false := by decide)
    (ha : ∀ v, assign (.Subscript (.Name x px) b tpos) X.env v = (holding [v] (eval (.Name x px) X.env) >>= fun ov => holding [v, ov] (eval b X.env) >>= fun iv => standAt tpos >>= fun _ => holding [v, ov, iv] (setItem ov iv v) >>= fun _ => release [v, ov, iv] []) := by intro _; rfl)
    (hs : swapsWithSole [.Subscript (.Name x px) b tpos] e pos.line X.env = pure false := by rfl) (hw : swappedStores [.Subscript (.Name x px) b tpos] e X.env = pure none := by rfl)
    (h1 : (assignEach [.Subscript (.Name x px) b tpos] X.env).map (·.2) = [assign (.Subscript (.Name x px) b tpos) X.env] := by rfl) :
    PS X (.Assign [.Subscript (.Name x px) b tpos] e pos) (tS G W (Q.sput i eb ea)) :=
  PS.conv (ps_asg he (pg_sub (pv i hN hv hd hcd) hb set_list ha) hs hw h1) fun T σ H ⟨fm, pl, env, ks, E, acc⟩ => by
    obtain ⟨d0, q, acc⟩ := hot_slot (k := Q.stS i eb ea env) acc rfl (fun s hs => by cases s <;> first | rfl | exact absurd rfl (hs _))
    obtain ⟨p, hσ, hp, hn0, K⟩ := E.slot i _ q
    have hpc : p ∉ pl.cs := fun m => (E.cn p m).2.2 hp
    have acc : AccS G W fm ks T ((ea env).bindS env fun d c m => if Q.dirty c d = true then .bad else (eb (env.wm m)).bindS env fun y _ m => Q.stV i (env.wm m) (Q.lput d d0 y)) := acc
    refine tE_st E (accS_bind E acc) fun pl1 d c m1 v H1 E1 s1 o1 acc1 => ⟨_, hσ, ?_⟩
    obtain ⟨hd, acc2⟩ := accS_clean acc1
    refine tE_st E1 (accS_bind E1 acc2) fun pl2 d2 c2 m2 v2 H2 E2 s2 o2 acc3 => ?_
    cases z : Q.lput d d0 d2 with
    | none => rw [z] at acc3; exact acc3.elim
    | some d1 =>
      rw [z] at acc3
      cases d0 with
      | lst ds =>
        cases d2 with
        | int k =>
          cases (o2.anyR)
          have z : (Q.ixN ds.length k).map (fun j => D.lst (ds.set j d)) = some d1 := z
          cases hj : Q.ixN ds.length k with
          | none => rw [hj] at z; cases z
          | some j =>
            rw [hj] at z
            cases z
            obtain ⟨vs, hH, rr⟩ := K
            have s02 := s1.trans s2
            have hp2 : p ∈ pl2.hs := by rw [s02.hs]; exact hp
            refine ⟨p, vs, k, j, rfl, rfl, s02.keep _ _ hH hpc, by rw [rr.1]; exact hj, acc3 pl2 _ _ (E2.writeSlot (s0 := .hot (.lst ds)) q trivial hσ hp2 trivial ?_)⟩
            exact ⟨p, hσ, hp2, hn0, vs.set j v, upd_same, ((rr.sub s02.cold).set ((o1.clean hd).sub s2.cold) j).sub (upd_cold (.inl hp2))⟩
        | _ => cases z
      | _ => cases z
/-- what an attribute's store comes to -/
theorem fput {n k : Nat} {nm : Str} {ds es : List D} {vs : List V} {d : D} {v : V} {A : Reg} {H : Hp} (C : ClsOk G n) (hk : (G.names n)[k]? = some nm) (rr : Reps G A H vs ds) (rv : Rep G A H v d) (h : Q.putF k ds d = some es) : ∃ us, L2.putF nm v ((G.names n).zip vs) = (G.names n).zip us ∧ Reps G A H us es := by
  by_cases h1 : k < ds.length
  · have h : some (ds.set k d) = some es := by simpa [h1] using h
    cases h
    exact ⟨vs.set k v, putF_set C.nd hk (by rw [rr.1]; exact h1), rr.set rv k⟩
  · by_cases h2 : k = ds.length
    · have h : some (ds ++ [d]) = some es := by simpa [h1, h2] using h
      cases h
      exact ⟨vs ++ [v], putF_app C.nd (by rw [rr.1, ← h2]; exact hk), rr.append (Reps.cons rv Reps.nil)⟩
    · exfalso
      simp [h1, h2] at h
theorem zip_few {n : Nat} (C : ClsOk G n) (vs : List V) : ((G.names n).zip vs).length < 1000 := by
  rw [List.length_zip]
  exact Nat.lt_of_le_of_lt (Nat.min_le_left _ _) C.few
theorem s_fld {n i k : Nat} {x nm : Str} {px tpos : Pos} (hK : X.K = G.K) (C : ClsOk G n) (he : PE X e (tE G W ea)) (hN : X.N[i]? = some x := by rfl) (hk : (G.names n)[k]? = some nm := by rfl) (hv : Vis X.env.scope x := by first | exact Or.inl rfl | exact Or.inr (Or.inl rfl) | exact Or.inr (Or.inr rfl))
    (hd : (x == ("__debug__" : Str)) = false := by decide) (hcd : (x == ("__classdict__" : Str)) = false := by decide)
    (hs : swapsWith e (some (.Attribute (.Name x px) nm tpos)) pos.line X.env = pure false := by rfl) :
    PS X (.Assign [.Attribute (.Name x px) nm tpos] e pos) (tS G W (Q.sfld n i k ea)) :=
  PS.conv (ps_fld (pv i hN hv hd hcd) he hs) fun T σ H ⟨fm, pl, env, ks, E, acc⟩ => by
    have e : Q.sfld n i k ea env = Q.slV n i k ea env (env.sl[i]?) := rfl
    rw [e] at acc
    cases q : env.sl[i]? with
    | none => rw [q] at acc; exact acc.elim
    | some s =>
      rw [q] at acc
      cases s with
      | hot d0 =>
        cases d0 with
        | obj m ds =>
          have acc : AccS G W fm ks T (if m = n then (ea env).bindS env fun d c μ => (if Q.dirty c d = true then .bad else Q.slU n i (env.wm μ) (Q.putF k ds d)) else .bad) := acc
          by_cases hm : m = n
          · subst hm
            rw [if_pos rfl] at acc
            obtain ⟨p, hσ, hp, hn, dx, vs, hH, rr⟩ := E.slot i _ q
            have hpc : p ∉ pl.cs := fun m => (E.cn p m).2.2 hp
            refine tE_st E (accS_bind E acc) fun pl1 d c m1 v H1 E1 s1 o1 acc1 => ⟨_, hσ, ?_⟩
            obtain ⟨hd, acc2⟩ := accS_clean acc1
            cases z : Q.putF k ds d with
            | none => rw [z] at acc2; exact acc2.elim
            | some es =>
              rw [z] at acc2
              obtain ⟨us, h1, h2⟩ := fput C hk (rr.sub s1.cold) (o1.clean hd) z
              have hp1 : p ∈ pl1.hs := by rw [s1.hs]; exact hp
              refine ⟨p, _, dx, _, rfl, s1.keep _ _ hH hpc, hK ▸ C.cl, hK ▸ C.no _ (List.mem_of_getElem? hk), zip_few C vs, ?_⟩
              rw [h1]
              exact acc2 pl1 _ _ (E1.writeSlot (s0 := .hot (.obj m ds)) q trivial hσ hp1 trivial ⟨p, hσ, hp1, hn, dx, us, upd_same, h2.sub (upd_cold (.inl hp1))⟩)
          · rw [if_neg hm] at acc
            exact acc.elim
        | _ => exact acc.elim
      | slf m ds =>
        have acc : AccS G W fm ks T (if m = n then (ea env).bindS env fun d c μ => (if Q.dirty c d = true then .bad else Q.slT n i (env.wm μ) (Q.putF k ds d)) else .bad) := acc
        by_cases hm : m = n
        · subst hm
          rw [if_pos rfl] at acc
          obtain ⟨p, hσ, hp, hn, dx, vs, hH, rr⟩ := E.slot i _ q
          have hpc : p ∉ pl.cs := fun m => (E.cn p m).2.2 hp
          refine tE_st E (accS_bind E acc) fun pl1 d c m1 v H1 E1 s1 o1 acc1 => ⟨_, hσ, ?_⟩
          obtain ⟨hd, acc2⟩ := accS_clean acc1
          cases z : Q.putF k ds d with
          | none => rw [z] at acc2; exact acc2.elim
          | some es =>
            rw [z] at acc2
            obtain ⟨us, h1, h2⟩ := fput C hk (rr.sub s1.cold) (o1.clean hd) z
            have hp1 : p ∈ pl1.hs := by rw [s1.hs]; exact hp
            refine ⟨p, _, dx, _, rfl, s1.keep _ _ hH hpc, hK ▸ C.cl, hK ▸ C.no _ (List.mem_of_getElem? hk), zip_few C vs, ?_⟩
            rw [h1]
            exact acc2 pl1 _ _ (E1.writeSlot (s0 := .slf m ds) q trivial hσ hp1 trivial ⟨p, hσ, hp1, hn, dx, us, upd_same, h2.sub (upd_cold (.inl hp1))⟩)
        · rw [if_neg hm] at acc
          exact acc.elim
      | _ => exact acc.elim
/-! ### loops -/
variable {tg iter : Expr} {body : List Stmt} {ev : Q.XI} {p : Pat}
theorem s_for (hp : PassesOwn (model X.prog X.w) X.A X.env X.xe) (hc : X.calm = true) (hi : PI X tg iter (tI G ev)) (hg : PG X tg (tG G p)) (hb : PSs X body (tS G W sb)) (hs : ∀ x, foldedSetIterable iter X.env x = pure x := by intro _; rfl) :
    PS X (.For tg iter body [] pos) (tS G W (Q.sfor ev p sb)) :=
  PS.conv (ps_for hp hc hi hg hb hs) fun T σ H ⟨fm, pl, env, ks, E, acc⟩ => by
    have e : Q.sfor ev p sb env = Q.foS p sb env (ev env) := rfl
    rw [e] at acc
    refine ⟨fm, pl, env, E.drop, ?_⟩
    cases q : ev env with
    | exc k fs m => rw [q] at acc; exact acc.elim
    | bad => rw [q] at acc; exact acc.elim
    | ok ds t m0 =>
      rw [q] at acc
      have acc : AccS G W fm ks T (Q.forL p sb ds (env.wm m0)) := acc
      intro pl1 J src H1 E1 s1 hsrc ok
      have E0 := env_back E s1 E1
      refine ⟨fun i m σ H => i + m = ds.length ∧ ∃ pl env, EnvOk G fm pl env (src ++ ks) σ H ∧ AccS G W fm ks T (Q.forL p sb (ds.drop i) env), ⟨ds.length, by omega, pl1, env.wm m0, ?_, by simpa using acc⟩, ?_⟩
      · exact { E0 with fr := fun k m => (List.mem_append.mp m).elim (hsrc k) (E0.fr k) }
      · rintro i m σ H ⟨him, pl, env, E, acc⟩
        obtain ⟨o1, o2, o3⟩ := ok (Cold fm pl) H i fun s m => E.fr s (List.mem_append_left _ m)
        have dr : ∀ {pl e σ H}, EnvOk G fm pl e (src ++ ks) σ H → EnvOk G fm pl e ks σ H := fun E => { E with fr := fun k m => E.fr k (List.mem_append_right _ m) }
        by_cases hi : i < ds.length
        · right
          rw [List.drop_eq_getElem_cons hi, Q.forL] at acc
          cases q : p.put ds[i] env with
          | none => rw [q] at acc; exact acc.elim
          | some e1 =>
            rw [q] at acc
            have acc : AccS G W fm ks T (Q.fT (Q.forL p sb (ds.drop (i + 1))) (sb e1)) := acc
            refine ⟨o1 hi, fun σ' H' => ∃ pl e2, EnvOk G fm pl e2 (src ++ ks) σ' H' ∧ AccS G W fm ks T (Q.forL p sb (ds.drop (i + 1)) e2), fun σ' H' ⟨pl, e2, E2, a2⟩ => ⟨m - 1, by omega, by omega, pl, e2, E2, a2⟩, fun x H' y => ?_⟩
            obtain ⟨s2, rx⟩ := o3 x H' _ y (List.getElem?_eq_getElem hi)
            have E2 := E.later s2
            refine ⟨fm, pl, env, src ++ ks, ds[i], e1, E2, rx.sub ⟨fun a o h e => ⟨h.elim id fun h => E.newCold h, e⟩, List.prefix_refl _⟩, q, fun σ2 E3 _ => ⟨fm, pl, e1, src ++ ks, E3, ?_⟩⟩
            cases q2 : sb e1 with
            | nx e2 => rw [q2] at acc; exact fun pl σ H E => ⟨pl, e2, E, acc⟩
            | ct e2 => rw [q2] at acc; exact fun pl σ H E => ⟨pl, e2, E, acc⟩
            | bk e2 => rw [q2] at acc; exact fun pl σ H E => acc pl σ H (dr E)
            | rt d c e2 => rw [q2] at acc; exact fun v pl σ H E r => acc v pl σ H (dr E) r
            | exc k fs e2 => rw [q2] at acc; exact fun cls dd pl σ H E x => acc cls dd pl σ H (dr E) x
            | bad => rw [q2] at acc; exact acc.elim
        · left
          have hi' : i = ds.length := by omega
          refine ⟨o2 hi', ?_⟩
          rw [hi', List.drop_length, Q.forL] at acc
          exact acc pl σ H (dr E)
theorem s_while {c : Expr} {N : Nat} (hp : PassesOwn (model X.prog X.w) X.A X.env X.xe) (hc : PT X c (tT G W tt)) (hb : PSs X body (tS G W sb)) : PS X (.While c body [] pos) (tS G W (Q.swhile N tt sb)) :=
  PS.conv (ps_while hp hc hb) fun T σ H ⟨fm, pl, env, ks, E, acc⟩ => by
    refine ⟨fun m σ H => ∃ pl env, EnvOk G fm pl env ks σ H ∧ AccS G W fm ks T (Q.whileN tt sb m env), ⟨N, pl, env, E, acc⟩, ?_⟩
    rintro m σ H ⟨pl, env, E, acc⟩
    cases m with
    | zero => exact acc.elim
    | succ m =>
      rw [Q.whileN] at acc
      refine tT_st E (accS_bindB E acc) fun pl1 k m1 H1 E1 s1 acc1 => ?_
      cases k with
      | false =>
        rw [if_neg (by simp)]
        exact acc1 pl1 σ H1 E1
      | true =>
        rw [if_pos rfl]
        have acc1 : AccS G W fm ks T (Q.fT (Q.whileN tt sb m) (sb (env.wm m1))) := acc1
        refine ⟨fun σ' H' => ∃ pl e2, EnvOk G fm pl e2 ks σ' H' ∧ AccS G W fm ks T (Q.whileN tt sb m e2), fun σ' H' ⟨pl, e2, E2, a2⟩ => ⟨m, Nat.lt_succ_self _, pl, e2, E2, a2⟩, fm, pl1, _, ks, E1, ?_⟩
        cases q2 : sb (env.wm m1) with
        | nx e2 => rw [q2] at acc1; exact fun pl σ H E => ⟨pl, e2, E, acc1⟩
        | ct e2 => rw [q2] at acc1; exact fun pl σ H E => ⟨pl, e2, E, acc1⟩
        | bk e2 => rw [q2] at acc1; exact acc1
        | rt d c e2 => rw [q2] at acc1; exact acc1
        | exc k fs e2 => rw [q2] at acc1; exact acc1
        | bad => rw [q2] at acc1; exact acc1.elim
end
end QW

set_option Elab.async false
set_option linter.all false
set_option maxRecDepth 100000
set_option maxHeartbeats 4000000
namespace QW
open PySem PySem.Spec PyProof.Rows L2
open Q (D S R RA RB Ctl Cl Pat Mem)
/-! ### defs -/
/-- a def of the text, with or without defaults -/
structure FunQ (K : PySem.W.Frag) (x qual : Str) (st : Stmt) (f : Addr) (fd : FuncData) : Prop where
  ex : ∃ (oc : Value) (od : Option Addr) (dV kV doc pm : Value) (an : Option Addr) (cdv ct : Value) (osl : Array (Option Value)),
    fd = PySem.W.fnOf x qual (defArgs st) (defBody st) (defScope st) dV kV doc pm an cdv ct ∧ K.lookup f = some ⟨oc, od, .func fd, osl⟩ ∧ PySem.W.codeIn K cdv qual = true
section
variable {K : PySem.W.Frag} {x qual : Str} {st : Stmt} {f : Addr} {fd : FuncData} {P : Program} {w : PySem.World} {mg : Str → Option Value} {base : Heap}
theorem _root_.L2.Fun.q (F : Fun K x qual st f fd) : FunQ K x qual st f fd := by
  obtain ⟨oc, od, kV, doc, pm, an, cdv, ct, osl, h⟩ := F.ex
  exact ⟨oc, od, _, kV, doc, pm, an, cdv, ct, osl, h⟩
theorem _root_.L2.FunD.q {dvs : List V} {kws : List (Str × V)} (F : FunD K x qual (defArgs st) (defBody st) (defScope st) dvs kws f fd) : FunQ K x qual st f fd := by
  obtain ⟨oc, od, dV, kV, doc, pm, an, cdv, ct, osl, h1, h2, h3, _⟩ := F.ex
  exact ⟨oc, od, dV, kV, doc, pm, an, cdv, ct, osl, h1, h2, h3⟩
theorem FunQ.okX {N ps : List Str} {k : Nat} {sp : Sp} (F : FunQ K x qual st f fd) (S : FnScope N ps (defScope st)) (len : ∀ vs H Q E, sp vs H Q E → vs.length = ps.length)
    (hbody : ∀ (cdv : Value) (A : Around) (outer : List Env) (s : Shared) (H : Hp) (vs : List V) (Q : VK) (E : XK), Room k (A.deeper (envOfC qual (defScope st) s.heap.objs.size f cdv)) → sp vs H Q E →
      ∃ t, PSs (cxOf (L2.CX P w) P w K mg base N qual (defScope st) f cdv A outer s H E) (defBody st) t ∧ t { nx := fun _ H' => Q .non H', rt := Q } (start N vs) H) : FnOk P w K mg base (L2.CX P w) (k + 1) f fd ps sp := by
  obtain ⟨oc, od, dV, kV, doc, pm, an, cdv, ct, osl, rfl, lk, hcd⟩ := F.ex
  exact fn_of lk hcd S len fun A outer s H vs Q E hr hsp => hbody cdv A outer s H vs Q E hr hsp
/-- n values are given, the defaults behind the first j fill up -/
theorem dfl_one {dvs : List V} {ps : List Str} (F : FunD K x qual (defArgs st) (defBody st) (defScope st) dvs [] f fd) (n j : Nat) (hd : dvs ≠ []) (hn : n + (dvs.length - j) = ps.length)
    (h : ∀ (T : Addr) (kV doc pm : Value) (an : Option Addr) (cdv ct : Value) (us its : List Value), us.length = n → its.length = dvs.length →
      ∃ k, bindArgs (PySem.W.fnOf x qual (defArgs st) (defBody st) (defScope st) (.ref T) kV doc pm an cdv ct) ⟨us, []⟩ = seqItems? (.ref T) >>= k ∧ k (some its.toArray) = pure (ps.zip (us ++ its.drop j))) : ∃ ds, Vals (dvs.drop j) ds ∧ Binds K fd ps ds := F.binds1 n j hd hn h
theorem bind_all {ps : List Str} (h : ∃ ds, Vals [] ds ∧ Binds K fd ps ds) : Binds K fd ps [] := by
  obtain ⟨ds, r, b⟩ := h
  cases r
  exact b
theorem fund_mk {dvs : List V} {its : List Value} {oc doc' : Value} {od dod : Option Addr} {T n : Nat} {kV doc pm : Value} {an : Option Addr} {cdv ct : Value} {osl dsl : Array (Option Value)} (l : K.lookup f = some ⟨oc, od, .func (PySem.W.fnOf x qual (defArgs st) (defBody st) (defScope st) (.ref T) kV doc pm an cdv ct), osl⟩) (c : PySem.W.codeIn K cdv qual = true) (k : PySem.W.keepIn K (.ref f) = true)
    (d : K.lookup T = some ⟨doc', dod, .seq its.toArray n, dsl⟩) (hd : dvs ≠ []) (r : Vals dvs its) : FunD K x qual (defArgs st) (defBody st) (defScope st) dvs [] f (PySem.W.fnOf x qual (defArgs st) (defBody st) (defScope st) (.ref T) kV doc pm an cdv ct) :=
  ⟨⟨oc, od, _, kV, doc, pm, an, cdv, ct, osl, rfl, l, c, .inr ⟨hd, T, _, its, n, rfl, d, rfl, r⟩, .inl rfl⟩, k⟩
end
section
variable {G : Cfg} {A : Reg} {H H' : Hp} {vs : List V} {ds : List D} {N : List Str} {cs : List Addr} {m : Mem}
theorem enter_get (vs : List V) (n i : Nat) : (vs.map some ++ List.replicate (n - vs.length) none)[i]? = if i < vs.length then (vs[i]?).map some else if i < n then some none else none := by
  by_cases h : i < vs.length
  · rw [if_pos h, List.getElem?_append_left (by simpa using h), List.getElem?_map]
  · rw [if_neg h, List.getElem?_append_right (by simpa using h), List.length_map, List.getElem?_replicate]
    by_cases h2 : i < n
    · rw [if_pos h2, if_pos (by omega)]
    · rw [if_neg h2, if_neg (by omega)]
/-- the frame of a def -/
def fmF (A : Reg) (H : Hp) (cs : List Addr) : Fm := ⟨fun a => A.p a ∨ TupH H a, H, cs, fun _ => False, cs, A.mu⟩
theorem world_cold (w : World G A H cs m) : Sub A H (Cold (fmF A H cs) ⟨[], cs, A.mu⟩) H := ⟨fun a o h e => ⟨⟨.inl (.inl h), by simp, fun m => (w.cs a m).1 h⟩, e⟩, List.prefix_refl _⟩
/-- the slots at a def's entry -/
theorem env_enter (w : World G A H cs m) (r : Reps G A H vs ds) (hl : ds.length ≤ N.length) : EnvOk G (fmF A H cs) ⟨[], cs, A.mu⟩ ⟨Q.enter N.length ds, m⟩ [] (start N vs) H where
  ex := fun a o _ e => e
  dom := fun a h => h
  tA := fun a xs e => .inr ⟨xs, e⟩
  len := by
    show (vs.map some ++ List.replicate (N.length - vs.length) none).length = (ds.map S.cold ++ List.replicate (N.length - ds.length) S.no).length
    simp [r.1]
  bor := fun a h => h.elim
  c0 := fun a h => h
  mup := List.prefix_refl _
  ms0 := fun a h => (w.cs a h).2.1
  msh := fun a h => .inr h
  hn := fun a h => by simp at h
  cn := fun a h => ⟨.inl h, (w.cs a h).2, by simp⟩
  mem := w.mem.sub (world_cold w) rfl fun a _ o e => e
  slot := fun i s q => by
    have q : (ds.map S.cold ++ List.replicate (N.length - ds.length) S.no)[i]? = some s := q
    show SlotOk G _ _ H s (vs.map some ++ List.replicate (N.length - vs.length) none)[i]?
    by_cases h : i < ds.length
    · rw [List.getElem?_append_left (by simpa using h), List.getElem?_map, List.getElem?_eq_getElem h] at q
      cases q
      obtain ⟨v, h1, h2⟩ := r.get (List.getElem?_eq_getElem h)
      refine ⟨v, ?_, h2.sub (world_cold w)⟩
      rw [enter_get, if_pos (by rw [r.1]; exact h), h1]
      rfl
    · rw [List.getElem?_append_right (by simpa using h), List.getElem?_replicate] at q
      split at q
      · cases q; trivial
      · cases q
  inj := fun i j s t p a b c d e f => by
    have a : (ds.map S.cold ++ List.replicate (N.length - ds.length) S.no)[i]? = some s := a
    by_cases h : i < ds.length
    · rw [List.getElem?_append_left (by simpa using h), List.getElem?_map, List.getElem?_eq_getElem h] at a
      cases a
      exact c.elim
    · rw [List.getElem?_append_right (by simpa using h), List.getElem?_replicate] at a
      split at a
      · cases a; exact c.elim
      · cases a
  fr := fun k h => by simp at h
section
variable {pl : Pl} {env : Q.Env} {ks : List (V × D)} {σ : L2.St}
theorem fm_after (E : EnvOk G (fmF A H cs) pl env ks σ H') : After none A.mu cs H pl.cs pl.mu H' := ⟨fun a o e n _ => E.ex a o n e, E.dom, fun a h => (E.cn a h).1, fun a h => (E.cn a h).2.1, E.mup⟩
theorem fm_out : Sub (Cold (fmF A H cs) pl) H' (outR A H cs pl.cs pl.mu) H' := ⟨fun a o h e => ⟨⟨h.1, h.2.2⟩, e⟩, List.prefix_refl _⟩
theorem fm_mem (E : EnvOk G (fmF A H cs) pl env ks σ H') : MemOk G (outR A H cs pl.cs pl.mu) pl.cs H' env.mem := E.mem.wider fm_out rfl
/-- what a def gives back, as its caller takes it -/
theorem rt_out {v : V} {d : D} {c : Cl} (E : EnvOk G (fmF A H cs) pl env ks σ H') (r : RtV G (fmF A H cs) pl env.mem H' v d c) : RtOk G A H cs pl.cs pl.mu env.mem H' v d (Q.outC c) := by
  have new : ∀ a ∈ pl.hs, H a = none := fun a m => (E.hn a m).1.elim (fun z => absurd z.1 z.2.1) id
  cases c with
  | cold => exact Rep.sub r fm_out
  | taint => exact Rep.sub r ⟨fun a o h e => ⟨⟨h.1.elim id fun h => h.elim (fun m => .inr (.inl (new a m))) fun z => z.elim, h.2⟩, e⟩, List.prefix_refl _⟩
  | fresh =>
    obtain ⟨p, a, b, c, d, e⟩ := r
    exact ⟨p, a, b, c, d.sub fm_out.but fun o e => e, e.wider fm_out.but rfl⟩
  | hot =>
    obtain ⟨p, a, b, c, d⟩ := r
    have s : Sub (Cold (fmF A H cs) pl) H' ((outR A H cs pl.cs pl.mu).but p) H' := ⟨fun q o h e => ⟨⟨⟨h.1, h.2.2⟩, fun z => h.2.1 (z ▸ b)⟩, e⟩, List.prefix_refl _⟩
    exact ⟨p, a, new p b, c, d.sub s fun o e => e, E.mem.wider s rfl⟩
end
end
section
variable {P : Program} {w : PySem.World} {G : Cfg} {mg : Str → Option Value} {base : Heap}
/-- the wish of a def's caller, whatever the slots -/
abbrev wE (E : XK) : WX := fun c d _ H => E c d H
abbrev cxQ (P : Program) (w : PySem.World) (K : PySem.W.Frag) (mg : Str → Option Value) (base : Heap) (N : List Str) (qual : Str) (scope : Scope) (f : Addr) (cdv : Value) (A : Around) (outer : List Env) (s : Shared) (H : Hp) (E : XK) : Cx := cxOf (L2.CX P w) P w K mg base N qual scope f cdv A outer s H E
/-- THE RULE for a def: its body's form -/
theorem fnQ {x qual : Str} {st : Stmt} {f : Addr} {fd : FuncData} {N ps : List Str} {k : Nat} {ev : Q.XS} (F : FunQ G.K x qual st f fd) (S : FnScope N ps (defScope st)) (hl : ps.length ≤ N.length)
    (hb : ∀ (cdv : Value) (A : Around) (outer : List Env) (s : Shared) (H : Hp) (E : XK), Room k (A.deeper (envOfC qual (defScope st) s.heap.objs.size f cdv)) →
      PSs (cxQ P w G.K mg base N qual (defScope st) f cdv A outer s H E) (defBody st) (tS G (wE E) ev)) :
    FnOk P w G.K mg base (L2.CX P w) (k + 1) f fd ps (spF G ps.length (Q.fn N.length ev)) :=
  F.okX S (fun vs H Q E h => spF_len h) fun cdv A outer s H vs P' E hr h => by
    refine ⟨_, hb cdv A outer s H E hr, ?_⟩
    obtain ⟨A0, cs, m, ds, hn, wd, r, h⟩ := h
    refine ⟨_, _, ⟨Q.enter N.length ds, m⟩, [], env_enter wd r (by rw [← r.1, hn]; exact hl), ?_⟩
    have e : Q.fn N.length ev ds m = Q.leave (ev ⟨Q.enter N.length ds, m⟩) := rfl
    rw [e] at h
    cases q : ev ⟨Q.enter N.length ds, m⟩ with
    | nx e => rw [q] at h; exact fun pl σ H' E' => h .non H' _ _ (fm_after E') (fm_mem E') Rep.non
    | rt d c e => rw [q] at h; exact fun v pl σ H' E' r => h v H' _ _ (fm_after E') (fm_mem E') (rt_out E' r)
    | exc k fs e => rw [q] at h; exact fun cls dd pl σ H' E' x => h cls dd H' _ _ (fm_after E') (fm_mem E') (x.sub fm_out fun a o h e => ⟨⟨h.1, h.2.2⟩, e⟩)
    | bk e => rw [q] at h; exact h.elim
    | ct e => rw [q] at h; exact h.elim
    | bad => rw [q] at h; exact h.elim
theorem tail_get {α : Type} {ds : List α} {g : α → S} {m i : Nat} {s : S} (h : (ds.map g ++ List.replicate m S.no)[i]? = some s) : (∃ d, ds[i]? = some d ∧ s = g d) ∨ s = .no := by
  by_cases hi : i < ds.length
  · rw [List.getElem?_append_left (by simpa using hi), List.getElem?_map, List.getElem?_eq_getElem hi] at h
    exact .inl ⟨ds[i], List.getElem?_eq_getElem hi, (Option.some.inj h).symm⟩
  · rw [List.getElem?_append_right (by simpa using hi), List.getElem?_replicate] at h
    split at h
    · exact .inr (Option.some.inj h).symm
    · cases h
/-- the slots at an __init__'s entry; keep: whether the arguments may be kept in the new object -/
def enterI (c n : Nat) (keep : Bool) (ds : List D) : List S := .slf c [] :: (ds.map (fun d => if keep then S.cold d else .bor d) ++ List.replicate (n - 1 - ds.length) .no)
def fmI (keep : Bool) (A : Reg) (H : Hp) (x : Addr) (cs : List Addr) : Fm := ⟨fun a => (keep = true ∧ A.p a) ∨ TupH H a, H, x :: cs, fun a => keep = false ∧ A.p a, cs, A.mu⟩
theorem env_init {A : Reg} {H : Hp} {x dx : Addr} {ws : List V} {ds : List D} {N : List Str} {c : Nat} {cs : List Addr} {m : Mem} (keep : Bool) (hx : H x = some (.ins (G.cls c) dx [])) (hA : ¬ A.p x) (hxc : x ∉ cs) (hd : ∀ a, A.p a → H a ≠ none) (wd : World G (A.kept keep) H cs m) (hc : ∀ a ∈ cs, ¬ A.p a) (r : Reps G A H ws ds) (hl : ds.length < N.length) :
    EnvOk G (fmI keep A H x cs) ⟨[x], cs, A.mu⟩ ⟨enterI c N.length keep ds, m⟩ [] (start N (.ref x :: ws)) H where
  ex := fun a o _ e => e
  dom := fun a h => h
  tA := fun a xs e => .inr ⟨xs, e⟩
  len := by
    show ((V.ref x :: ws).map some ++ List.replicate (N.length - (V.ref x :: ws).length) none).length = (enterI c N.length keep ds).length
    simp [enterI, r.1]
    omega
  bor := fun a h => ⟨hd a h.2, fun m => (List.mem_cons.mp m).elim (fun z => hA (z ▸ h.2)) fun z => hc a z h.2⟩
  c0 := fun a h => List.mem_cons_of_mem _ h
  mup := List.prefix_refl _
  ms0 := fun a h => (List.mem_cons.mp h).elim (fun z => by rw [z]; exact fun q => nomatch (hx.symm.trans q)) fun z => (wd.cs a z).2.1
  msh := fun a h => (List.mem_cons.mp h).elim (fun z => .inl (by simp [z])) .inr
  hn := fun a h => by
    simp at h
    subst h
    exact ⟨.inl ⟨List.mem_cons_self, hxc, fun q => nomatch (hx.symm.trans q)⟩, Lv.of hx fun _ z => nomatch z⟩
  cn := fun a h => ⟨.inl h, (wd.cs a h).2, fun z => by simp at z; exact hxc (z ▸ h)⟩
  mem := wd.mem.sub ⟨fun a o h e => ⟨⟨.inl (.inl h), fun z => by simp at z; exact hA (z ▸ h.2), fun z => hc a z h.2⟩, e⟩, List.prefix_refl _⟩ rfl fun a _ o e => e
  slot := fun i s q => by
    show SlotOk G _ _ H s ((V.ref x :: ws).map some ++ List.replicate (N.length - (V.ref x :: ws).length) none)[i]?
    cases i with
    | zero =>
      cases q
      exact ⟨x, rfl, List.mem_cons_self, List.mem_cons_self, dx, [], by rw [List.zip_nil_right]; exact hx, Reps.nil⟩
    | succ i =>
      have q : (enterI c N.length keep ds)[i + 1]? = some s := q
      rw [enterI, List.getElem?_cons_succ] at q
      rcases tail_get q with ⟨d, h, rfl⟩ | rfl
      · obtain ⟨v, h1, h2⟩ := r.get h
        have hi : i + 1 < (V.ref x :: ws).length := by rw [List.length_cons, r.1]; have := (List.getElem?_eq_some_iff.mp h).1; omega
        rw [enter_get, if_pos hi, List.getElem?_cons_succ, h1]
        cases keep with
        | true => exact ⟨v, rfl, h2.sub ⟨fun a o ha e => ⟨⟨.inl (.inl ⟨rfl, ha⟩), fun z => by simp at z; exact hA (z ▸ ha), fun z => hc a z ha⟩, e⟩, List.prefix_refl _⟩⟩
        | false => exact ⟨v, rfl, h2.sub ⟨fun a o ha e => ⟨⟨rfl, ha⟩, e⟩, List.prefix_refl _⟩⟩
      · trivial
  inj := fun i j s t p a b c' d' e f => by
    have one : ∀ (i : Nat) s, (enterI c N.length keep ds)[i]? = some s → isHot s → i = 0 := fun i s a c => by
      cases i with
      | zero => rfl
      | succ i =>
        rw [enterI, List.getElem?_cons_succ] at a
        rcases tail_get a with ⟨d, h, rfl⟩ | rfl
        · cases keep <;> exact c.elim
        · exact c.elim
    rw [one i s a c', one j t b d']
  fr := fun k h => by simp at h
section
variable {keep : Bool} {A : Reg} {H H' : Hp} {x : Addr} {cs : List Addr} {pl : Pl} {env : Q.Env} {ks : List (V × D)} {σ : L2.St}
theorem fi_after (E : EnvOk G (fmI keep A H x cs) pl env ks σ H') : After (some x) A.mu cs H pl.cs pl.mu H' := ⟨fun a o e n z => E.ex a o (fun m => (List.mem_cons.mp m).elim (fun q => z (by rw [q])) n) e, E.dom, fun a h => (E.cn a h).1, fun a h => (E.cn a h).2.1, E.mup⟩
theorem fi_x (E : EnvOk G (fmI keep A H x cs) pl env ks σ H') (hxc : x ∉ cs) : x ∈ pl.hs := (E.msh x List.mem_cons_self).elim id fun z => absurd z hxc
theorem fi_out (hx : x ∈ pl.hs) : Sub (Cold (fmI keep A H x cs) pl) H' ((outR (A.kept keep) H cs pl.cs pl.mu).but x) H' := ⟨fun a o h e => ⟨⟨⟨h.1, h.2.2⟩, fun z => h.2.1 (z ▸ hx)⟩, e⟩, List.prefix_refl _⟩
end
theorem initQ {x qual : Str} {st : Stmt} {f : Addr} {fd : FuncData} {N ps : List Str} {k c : Nat} {ev : Q.XS} {g : Q.F} (keep : Bool) (F : FunQ G.K x qual st f fd) (S : FnScope N ps (defScope st)) (hl : ps.length ≤ N.length) (h0 : 0 < ps.length)
    (hg : ∀ ds m, g ds m = Q.leaveI c (ev ⟨enterI c N.length keep ds, m⟩))
    (hb : ∀ (cdv : Value) (A : Around) (outer : List Env) (s : Shared) (H : Hp) (E : XK), Room k (A.deeper (envOfC qual (defScope st) s.heap.objs.size f cdv)) →
      PSs (cxQ P w G.K mg base N qual (defScope st) f cdv A outer s H E) (defBody st) (tS G (wE E) ev)) :
    FnOk P w G.K mg base (L2.CX P w) (k + 1) f fd ps (spI G c (ps.length - 1) keep g) :=
  F.okX S (fun vs H Q E h => by rw [spI_len h]; omega) fun cdv A outer s H vs P' E hr h => by
    refine ⟨_, hb cdv A outer s H E hr, ?_⟩
    obtain ⟨x, dx, ws, A0, cs, m, ds, rfl, hn, hx, hA, hxc, hd, wd, hc, r, h⟩ := h
    refine ⟨_, _, ⟨enterI c N.length keep ds, m⟩, [], env_init keep hx hA hxc hd wd hc r (by rw [← r.1, hn]; omega), ?_⟩
    rw [hg ds m] at h
    cases q : ev ⟨enterI c N.length keep ds, m⟩ with
    | nx e =>
      rw [q] at h
      obtain ⟨sl, mm⟩ := e
      cases sl with
      | nil => exact h.elim
      | cons s sl =>
        cases s with
        | slf k fs =>
          have e0 : Q.leaveI c (.nx ⟨.slf k fs :: sl, mm⟩) = if k = c then .ok (.obj c fs) .fresh mm else .bad := rfl
          rw [e0] at h
          by_cases hk : k = c
          · subst hk
            rw [if_pos rfl] at h
            obtain ⟨fs', e1, h⟩ := h
            intro pl σ H' E'
            obtain ⟨p, hσ, hp, hm, K⟩ := E'.slot 0 _ rfl
            have hxh := fi_x E' hxc
            have hpx : p = x := (List.mem_cons.mp hm).elim id fun z => by
              exact absurd hp (fun q => (E'.hn p q).1.elim (fun y => y.2.1 z) fun y => (wd.cs p z).2.1 y)
            subst hpx
            exact h H' _ _ (fi_after E') (E'.mem.wider (fi_out hp) rfl) (K.sub (fi_out hp) fun o e => e)
          · rw [if_neg hk] at h; exact h.elim
        | _ => exact h.elim
    | exc k fs e =>
      rw [q] at h
      exact fun cls dd pl σ H' E' xx => h cls dd H' _ _ (fi_after E') (E'.mem.wider (fi_out (fi_x E' hxc)) rfl) (xx.sub ((fi_out (fi_x E' hxc)).trans ⟨fun a o h e => ⟨⟨⟨h.1.1.imp (fun z => z.imp (fun z => z.2) id) id, h.1.2⟩, h.2⟩, e⟩, List.prefix_refl _⟩) fun a o h e => ⟨⟨h.1, h.2.2⟩, e⟩)
    | rt d c e => rw [q] at h; exact h.elim
    | bk e => rw [q] at h; exact h.elim
    | ct e => rw [q] at h; exact h.elim
    | bad => rw [q] at h; exact h.elim
end
/-! ### isinstance -/
section
variable {X : Cx} {W : WX} {G : Cfg} {a : Expr} {ea : Q.X} {p p1 p2 pos : Pos}
/-- the type of a datum that is no object -/
inductive TyD : D → String → Prop
  | non : TyD .non "NoneType"
  | bl (b : Bool) : TyD (.bl b) "bool"
  | int (i : Int) : TyD (.int i) "int"
  | str (s : Str) : TyD (.str s) "str"
  | tup (xs : List D) : TyD (.tup xs) "tuple"
  | lst (xs : List D) : TyD (.lst xs) "list"
theorem tyX_of {A : Reg} {H : Hp} {d : D} {v : V} {n : String} (r : Rep G A H v d) (t : TyD d n) : TyX G.K H v (.type n) := by
  cases t <;> cases r
  · exact .base .non
  · exact .base (.bl _)
  · exact .base (.int _)
  · exact .base (.str _)
  · rename_i h _ _; exact .base (.tup h)
  · rename_i h _ _; exact .base (.lst h)
/-- q tells the answer for each type -/
def IsQ (q : D → Option Bool) (T : String) : Prop := ∀ d b, q d = some b → ∃ n, TyD d n ∧ kitB n T = some b
theorem isq_tup : IsQ Q.isTup "tuple" := fun d b h => by
  cases d <;> simp [Q.isTup] at h <;> subst h
  · exact ⟨_, .non, by decide +kernel⟩
  · exact ⟨_, .bl _, by decide +kernel⟩
  · exact ⟨_, .int _, by decide +kernel⟩
  · exact ⟨_, .str _, by decide +kernel⟩
  · exact ⟨_, .tup _, by decide +kernel⟩
  · exact ⟨_, .lst _, by decide +kernel⟩
theorem isq_lst : IsQ Q.isLst "list" := fun d b h => by
  cases d <;> simp [Q.isLst] at h <;> subst h
  · exact ⟨_, .non, by decide +kernel⟩
  · exact ⟨_, .bl _, by decide +kernel⟩
  · exact ⟨_, .int _, by decide +kernel⟩
  · exact ⟨_, .str _, by decide +kernel⟩
  · exact ⟨_, .tup _, by decide +kernel⟩
  · exact ⟨_, .lst _, by decide +kernel⟩
theorem isq_bl : IsQ Q.isBl "bool" := fun d b h => by
  cases d <;> simp [Q.isBl] at h <;> subst h
  · exact ⟨_, .non, by decide +kernel⟩
  · exact ⟨_, .bl _, by decide +kernel⟩
  · exact ⟨_, .int _, by decide +kernel⟩
  · exact ⟨_, .str _, by decide +kernel⟩
  · exact ⟨_, .tup _, by decide +kernel⟩
  · exact ⟨_, .lst _, by decide +kernel⟩
theorem isq_int : IsQ Q.isInt "int" := fun d b h => by
  cases d <;> simp [Q.isInt] at h <;> subst h
  · exact ⟨_, .non, by decide +kernel⟩
  · exact ⟨_, .bl _, by decide +kernel⟩
  · exact ⟨_, .int _, by decide +kernel⟩
  · exact ⟨_, .str _, by decide +kernel⟩
  · exact ⟨_, .tup _, by decide +kernel⟩
  · exact ⟨_, .lst _, by decide +kernel⟩
theorem isq_str : IsQ Q.isStr "str" := fun d b h => by
  cases d <;> simp [Q.isStr] at h <;> subst h
  · exact ⟨_, .non, by decide +kernel⟩
  · exact ⟨_, .bl _, by decide +kernel⟩
  · exact ⟨_, .int _, by decide +kernel⟩
  · exact ⟨_, .str _, by decide +kernel⟩
  · exact ⟨_, .tup _, by decide +kernel⟩
  · exact ⟨_, .lst _, by decide +kernel⟩
theorem isi_some {o : Option Bool} {fm : Fm} {pl : Pl} {env : Q.Env} {σ : L2.St} {H : Hp} {m : Mem} {P : Pl → D → Cl → Mem → V → Hp → Prop} (h : AccR G W fm pl env σ H (Q.blO m o) P) : ∃ b, o = some b ∧ AccR G W fm pl env σ H (.ok (.bl b) .cold m) P := by
  cases o with
  | none => exact h.elim
  | some b => exact ⟨b, rfl, h⟩
theorem q_isi {q : D → Option Bool} {T : String} {x : Str} (hq : IsQ q T) (hK : X.K = G.K) (hm : X.mg "isinstance" = none) (hmt : X.mg x = none) (ha : PE X a (tE G W ea)) (hv : bootBuiltins x = some (.type T) := by decide +kernel) (hg : Gl X "isinstance" := by rfl) (hgt : Gl X x := by rfl)
    (hn : x ≠ "__name__" := by decide) (hdb : (x == ("__debug__" : Str)) = false := by decide)
    (he : starEach (a :: [.Name x p1]) X.env = (false, eval a X.env) :: starEach [.Name x p1] X.env := by rfl) (he2 : starEach (.Name x p1 :: []) X.env = (false, eval (.Name x p1) X.env) :: starEach [] X.env := by rfl) (hpl : (backTo pos (starEach [.Name x p1] X.env)).any (·.1) = false := by rfl) :
    PE X (.Call (.Name "isinstance" p) [a, .Name x p1] [] pos) (tE G W (Q.isi q ea)) := by
  have cr : CallR X (.builtin "isinstance") (rIsi G.K) := hK ▸ call_isi
  have ty : PE X (.Name x p1) (tC (.ty T)) := pe_bltn hgt hmt hv rfl hn hdb
  refine (pe_callB cr hg hm (by decide +kernel) (pa_cons ha (pa_cons ty pa_nil he2) he) (by decide) (by decide) he hpl).conv fun σ H P ⟨fm, pl, env, E, acc⟩ => tE_in E (acc_bind acc) fun pl1 d c m1 v H1 E1 s1 o1 acc1 => ?_
  obtain ⟨y, c', l, acc2⟩ := acc_rd E1 (o1.at (Ext.refl _)) acc1
  obtain ⟨b, e, acc3⟩ := isi_some acc2
  obtain ⟨n, t, k⟩ := hq y b e
  exact ⟨v, .ty T, _, _, b, rfl, .ty T, tyX_of l.any t, kit_ty k, acc3 _ _ H1 E1 (Ext.refl _) (Rep.bl b)⟩
/-- isinstance(x, (tuple, list)) -/
theorem q_isTL {k2} (hK : X.K = G.K) (hm : X.mg "isinstance" = none) (hm1 : X.mg "tuple" = none) (hm2 : X.mg "list" = none) (ha : PE X a (tE G W ea)) {p3 : Pos} (hg : Gl X "isinstance" := by rfl) (hg1 : Gl X "tuple" := by rfl) (hg2 : Gl X "list" := by rfl)
    (he : starEach (a :: [.Tuple [.Name "tuple" p1, .Name "list" p2] k2 p3]) X.env = (false, eval a X.env) :: starEach [.Tuple [.Name "tuple" p1, .Name "list" p2] k2 p3] X.env := by rfl)
    (he2 : starEach (.Tuple [.Name "tuple" p1, .Name "list" p2] k2 p3 :: []) X.env = (false, eval (.Tuple [.Name "tuple" p1, .Name "list" p2] k2 p3) X.env) :: starEach [] X.env := by rfl)
    (he3 : starEach (.Name "tuple" p1 :: [.Name "list" p2]) X.env = (false, eval (.Name "tuple" p1) X.env) :: starEach [.Name "list" p2] X.env := by rfl) (he4 : starEach (.Name "list" p2 :: []) X.env = (false, eval (.Name "list" p2) X.env) :: starEach [] X.env := by rfl)
    (hpl : (backTo pos (starEach [.Tuple [.Name "tuple" p1, .Name "list" p2] k2 p3] X.env)).any (·.1) = false := by rfl) :
    PE X (.Call (.Name "isinstance" p) [a, .Tuple [.Name "tuple" p1, .Name "list" p2] k2 p3] [] pos) (tE G W (Q.isi Q.isTL ea)) := by
  have cr : CallR X (.builtin "isinstance") (rIsiT G.K) := hK ▸ call_isiT
  have t1 : PE X (.Name "tuple" p1) (tC (.ty "tuple")) := pe_bltn hg1 hm1 (by decide +kernel) rfl
  have t2 : PE X (.Name "list" p2) (tC (.ty "list")) := pe_bltn hg2 hm2 (by decide +kernel) rfl
  refine (pe_callB cr hg hm (by decide +kernel) (pa_cons ha (pa_cons (pe_tup (pa_cons t1 (pa_cons t2 pa_nil he4) he3)) pa_nil he2) he) (by decide) (by decide) he hpl).conv fun σ H P ⟨fm, pl, env, E, acc⟩ => tE_in E (acc_bind acc) fun pl1 d0 c m1 v H1 E1 s1 o1 acc1 => ?_
  obtain ⟨d, c', l, acc2⟩ := acc_rd E1 (o1.at (Ext.refl _)) acc1
  obtain ⟨b, e, acc3⟩ := isi_some acc2
  refine ⟨by decide, fun t ht => ?_⟩
  have go : ∃ n, TyD d n ∧ PySem.W.kitAny G.K (.type n) [.type "tuple", .type "list"] = some b := by
    cases d <;> simp [Q.isTL] at e <;> subst e
    · exact ⟨_, .non, kitAny_cons (kit_ty (r := false) (by decide +kernel)) (fun _ => kitAny_cons (kit_ty (r := false) (by decide +kernel)) (fun _ => rfl) fun z => nomatch z) fun z => nomatch z⟩
    · exact ⟨_, .bl _, kitAny_cons (kit_ty (r := false) (by decide +kernel)) (fun _ => kitAny_cons (kit_ty (r := false) (by decide +kernel)) (fun _ => rfl) fun z => nomatch z) fun z => nomatch z⟩
    · exact ⟨_, .int _, kitAny_cons (kit_ty (r := false) (by decide +kernel)) (fun _ => kitAny_cons (kit_ty (r := false) (by decide +kernel)) (fun _ => rfl) fun z => nomatch z) fun z => nomatch z⟩
    · exact ⟨_, .str _, kitAny_cons (kit_ty (r := false) (by decide +kernel)) (fun _ => kitAny_cons (kit_ty (r := false) (by decide +kernel)) (fun _ => rfl) fun z => nomatch z) fun z => nomatch z⟩
    · exact ⟨_, .tup _, kitAny_cons (kit_ty (r := true) (by decide +kernel)) (fun z => nomatch z) fun _ => rfl⟩
    · exact ⟨_, .lst _, kitAny_cons (kit_ty (r := false) (by decide +kernel)) (fun _ => kitAny_cons (kit_ty (r := true) (by decide +kernel)) (fun z => nomatch z) fun _ => rfl) fun z => nomatch z⟩
  obtain ⟨n, t', k⟩ := go
  exact ⟨v, t, [.ty "tuple", .ty "list"], _, [.type "tuple", .type "list"], b, rfl, upd_same, .cons (.ty _) (.cons (.ty _) .nil), tyX_of (l.any.sub (new_reg ht)) t', k, acc3 _ _ _ (E1.later (same_new ht)) (ext_new ht) (Rep.bl b)⟩
end
/-! ### the ends -/
theorem FnOk.impS {P : Program} {w : PySem.World} {K : PySem.W.Frag} {mg : Str → Option Value} {base : Heap} {CX : CXT} {k : Nat} {f : Addr} {fd : FuncData} {ps : List Str} {sp sq : Sp} (F : FnOk P w K mg base CX k f fd ps sp) (h : ∀ vs H Q E, sq vs H Q E → sp vs H Q E) : FnOk P w K mg base CX k f fd ps sq := F.imp h
/-- a def that is never called -/
theorem fnBad {P : Program} {w : PySem.World} {K : PySem.W.Frag} {mg : Str → Option Value} {base : Heap} {CX : CXT} {G : Cfg} {k : Nat} {f : Addr} {fd : FuncData} {ps : List Str} : FnOk P w K mg base CX k f fd ps (spF G ps.length fun _ _ => .bad) where
  len := fun vs H Q E h => spF_len h
  run := fun A outer s H args us vs Q E hr e0 hb r h => by
    obtain ⟨_, _, _, _, _, _, _, h⟩ := h
    exact h.elim
def spLaw (K : PySem.W.Frag) : Sp := fun vs H P _ => ∃ (a : Addr) (ns : List Int), vs = [.ref a] ∧ SqL K H a (ns.map V.int) ∧ ns.length ≤ 63 ∧ ∀ H', P (.bl true) H'
theorem law_end {P : Program} {w : PySem.World} {G : Cfg} {mg : Str → Option Value} {base : Heap} {k : Nat} {f : Addr} {fd : FuncData} {g : Q.F} (F : FnOk P w G.K mg base (L2.CX P w) k f fd ["script"] (spF G 1 g))
    (h : ∀ ns : List Int, ns.length ≤ 63 → ∃ c m, g [.frz ns] [] = .ok (.bl true) c m) : FnOk P w G.K mg base (L2.CX P w) k f fd ["script"] (spLaw G.K) :=
  F.imp fun vs H Q E ⟨a, ns, e, hs, hl, q⟩ => by
    subst e
    obtain ⟨c, m, hc⟩ := h ns hl
    refine ⟨⟨fun _ => True, []⟩, [], [], [.frz ns], rfl, ⟨⟨rfl, fun n d e => by simp at e, fun n k d e p a => by simp at a⟩, fun a h => by simp at h⟩, Reps.cons (Rep.of_frz trivial hs) Reps.nil, ?_⟩
    rw [hc]
    intro v H' cs' mu' F M r
    have e : v = .bl true := by
      cases c with
      | fresh => obtain ⟨_, _, _, _, z, _⟩ := r; exact z.elim
      | cold => exact Rep.bl_inv r
      | hot => exact Rep.bl_inv r
      | taint => exact Rep.bl_inv r
    rw [e]
    exact q H'
theorem cx_none {P : Program} {w : PySem.World} {H : Hp} {s : Shared} {e : Value} {s' : Shared} (h : L2.CX P w [] H s (fun _ _ _ => False) e s') : False := by
  obtain ⟨_, _, _, _, _, _, _, _, _, _, _, _, h⟩ := h
  exact h
end QW

set_option Elab.async false
set_option linter.all false
set_option maxRecDepth 100000
set_option maxHeartbeats 4000000
namespace QW
open PySem PySem.Spec PyProof.Rows L2
open Q (D S R RA RB Ctl Cl Pat Mem)
/-! ### things of the memory -/
section
variable {G : Cfg} {W : WX} {fm : Fm} {pl pl1 : Pl} {env : Q.Env} {ks : List (V × D)} {σ : L2.St} {H H' : Hp} {m : Mem} {p : Addr} {d : D}
theorem mem_get {n : Nat} (e : m[n]? = some (some d)) : Q.at_ m n = some d := by unfold Q.at_; rw [e]; rfl
theorem get_mem {n : Nat} (q : Q.at_ m n = some d) : m[n]? = some (some d) := by
  unfold Q.at_ at q
  cases z : m[n]? with
  | none => rw [z] at q; cases q
  | some o => rw [z] at q; have q : o = some d := q; rw [q]
def Pl.addC (pl : Pl) (p : Addr) : Pl := ⟨pl.hs, p :: pl.cs, pl.mu ++ [p]⟩
theorem addC_sub : Sub ((Cold fm pl).but p) H (Cold fm (pl.addC p)) H := ⟨fun a o h e => ⟨⟨h.1.1, h.1.2.1, fun m => (List.mem_cons.mp m).elim h.2 h.1.2.2⟩, e⟩, ⟨[p], rfl⟩⟩
/-- a fresh thing is put into the memory -/
theorem mem_add (hc : p ∉ pl.cs) (K : Con G ((Cold fm pl).but p) H p d) (M : MemOk G ((Cold fm pl).but p) pl.cs H m) : MemOk G (Cold fm (pl.addC p)) (p :: pl.cs) H (m ++ [some d]) := by
  have hl : pl.mu.length = m.length := M.len
  have old : ∀ {n : Nat} {x : D}, (m ++ [some d])[n]? = some (some x) → (n < m.length ∧ m[n]? = some (some x)) ∨ (n = m.length ∧ x = d) := fun {n x} e => by
    by_cases hn : n < m.length
    · rw [List.getElem?_append_left hn] at e; exact .inl ⟨hn, e⟩
    · rw [List.getElem?_append_right (by omega)] at e
      have h0 : n - m.length = 0 := by
        have := (List.getElem?_eq_some_iff.mp e).1
        simp at this; omega
      rw [h0] at e
      exact .inr ⟨by omega, by simpa using e.symm⟩
  have mu : ∀ {n : Nat}, n < m.length → (pl.mu ++ [p])[n]? = pl.mu[n]? := fun {n} h => List.getElem?_append_left (by omega)
  have mup : (pl.mu ++ [p])[m.length]? = some p := by rw [List.getElem?_append_right (by omega), hl, Nat.sub_self]; rfl
  refine ⟨?_, fun n x e => ?_, fun n k x y q h1 h2 h3 h4 => ?_⟩
  · show (pl.mu ++ [p]).length = (m ++ [some d]).length
    rw [List.length_append, List.length_append, hl]; rfl
  · rcases old e with ⟨hn, e⟩ | ⟨rfl, rfl⟩
    · obtain ⟨q, a, b, c⟩ := M.cell n x e
      exact ⟨q, (mu hn).trans a, List.mem_cons_of_mem _ b, c.sub addC_sub fun o e => e⟩
    · exact ⟨p, mup, List.mem_cons_self, K.sub addC_sub fun o e => e⟩
  · have live : ∀ {n : Nat} {x : D}, n < m.length → m[n]? = some (some x) → (pl.mu ++ [p])[n]? = some p → False := fun {n x} hn e h => by
      rw [mu hn] at h
      obtain ⟨q, a, b, c⟩ := M.cell n x e
      have : q = p := Option.some.inj (a.symm.trans h)
      exact hc (this ▸ b)
    have h3 : (pl.mu ++ [p])[n]? = some q := h3
    have h4 : (pl.mu ++ [p])[k]? = some q := h4
    rcases old h1 with ⟨hn, e1⟩ | ⟨rfl, rfl⟩ <;> rcases old h2 with ⟨hk, e2⟩ | ⟨rfl, rfl⟩
    · exact M.inj n k x y q e1 e2 ((mu hn).symm.trans h3) ((mu hk).symm.trans h4)
    · rw [mup] at h4; cases h4; exact (live hn e1 h3).elim
    · rw [mup] at h3; cases h3; exact (live hk e2 h4).elim
    · rfl
/-- what stands at a place is written -/
theorem EnvOk.writeCell {n : Nat} {o : HO} {d0 : D} (E : EnvOk G fm pl env ks σ H) (hd : env.mem[n]? = some (some d0)) (hm : pl.mu[n]? = some p) (hp : p ∈ pl.cs) (new : Con G (Cold fm pl) (upd H p o) p d) : EnvOk G fm pl (env.wm (env.mem.set n (some d))) ks σ (upd H p o) where
  ex := E.exW (.inr hp)
  dom := fun a h => upd_dom (E.dom a h)
  tA := E.tA
  len := E.len
  bor := E.bor
  c0 := E.c0
  mup := E.mup
  ms0 := E.ms0
  msh := E.msh
  hn := fun a m => ⟨(E.hn a m).1, upd_lv (fun xs z => new.lv.2 xs (by rw [upd_same, z])) (E.hn a m).2⟩
  cn := fun a m => ⟨(E.cn a m).1, upd_lv (fun xs z => new.lv.2 xs (by rw [upd_same, z])) (E.cn a m).2.1, (E.cn a m).2.2⟩
  mem := by
    have hl := (List.getElem?_eq_some_iff.mp hd).1
    refine ⟨?_, fun k x e => ?_, fun j k x y q h1 h2 h3 h4 => ?_⟩
    · show pl.mu.length = (env.mem.set n (some d)).length
      rw [List.length_set]; exact E.mem.len
    · rcases get_set (show (env.mem.set n (some d))[k]? = some (some x) from e) with ⟨rfl, _, e⟩ | ⟨hne, e⟩
      · cases e
        exact ⟨p, hm, hp, new⟩
      · obtain ⟨q, a, b, c⟩ := E.mem.cell k x e
        have nq : q ≠ p := fun z => hne (E.mem.inj k n x d0 p e hd (z ▸ a) hm)
        exact ⟨q, a, b, c.sub (upd_cold (.inr hp)) fun o e => upd_keep nq e⟩
    · have back : ∀ {j : Nat} {x : D}, (env.mem.set n (some d))[j]? = some (some x) → ∃ x', env.mem[j]? = some (some x') := fun {j x} h => by
        rcases get_set h with ⟨rfl, _, _⟩ | ⟨_, h⟩
        · exact ⟨d0, hd⟩
        · exact ⟨x, h⟩
      obtain ⟨x', e1⟩ := back h1
      obtain ⟨y', e2⟩ := back h2
      exact E.mem.inj j k x' y' q e1 e2 h3 h4
  slot := fun i s q => by
    have sl := E.slot i s q
    have nh : ∀ {q' : Addr}, q' ∈ pl.hs → q' ≠ p := fun m z => (E.cn p hp).2.2 (z ▸ m)
    cases s with
    | no => trivial
    | cold d =>
      obtain ⟨v, a, b⟩ := sl
      exact ⟨v, a, b.sub (upd_cold (.inr hp))⟩
    | hot d =>
      obtain ⟨q', a, b, n, k⟩ := sl
      exact ⟨q', a, b, n, k.sub (upd_cold (.inr hp)) fun o e => upd_keep (nh b) e⟩
    | slf c ds =>
      obtain ⟨q', a, b, n, k⟩ := sl
      exact ⟨q', a, b, n, k.sub (upd_cold (.inr hp)) fun o e => upd_keep (nh b) e⟩
    | bor d =>
      obtain ⟨v, a, b⟩ := sl
      exact ⟨v, a, b.sub ⟨fun a o h e => ⟨h, upd_keep (fun z => E.notBor (.inr hp) (z ▸ h)) e⟩, List.prefix_refl _⟩⟩
    | exn k fs =>
      obtain ⟨a, cls, dd, b, c, r⟩ := sl
      exact ⟨a, cls, dd, b, c, r.sub (upd_cold (.inr hp)) (upd_newr (.inr hp))⟩
  inj := E.inj
  fr := fun k m => (E.fr k m).sub (upd_cold (.inr hp))
/-- a thing of the memory is changed no more -/
theorem EnvOk.kill {n i : Nat} (E : EnvOk G fm pl env ks σ H) (hi : env.sl[i]? = some (.cold (.ptr n))) (hd : env.mem[n]? = some (some d)) : ∃ pl', EnvOk G fm pl' ((env.wm (env.mem.set n none)).set i (.cold d)) ks σ H := by
  obtain ⟨p, hm, hp, K⟩ := E.mem.cell n d hd
  have ms : ∀ a, a ∈ pl.cs.filter (fun a => decide (a ≠ p)) → a ∈ pl.cs := fun a h => (List.mem_filter.mp h).1
  have mm : Sub (Cold fm pl) H (Cold fm ⟨pl.hs, pl.cs.filter fun a => decide (a ≠ p), pl.mu⟩) H := ⟨fun a o h e => ⟨⟨h.1, h.2.1, fun z => h.2.2 (ms a z)⟩, e⟩, List.prefix_refl _⟩
  have mn : ∀ a o, New fm pl a → H a = some o → New fm ⟨pl.hs, pl.cs.filter fun a => decide (a ≠ p), pl.mu⟩ a ∧ H a = some o := fun a o h e => ⟨⟨h.1, h.2.1, fun z => h.2.2 (ms a z)⟩, e⟩
  refine ⟨⟨pl.hs, pl.cs.filter fun a => decide (a ≠ p), pl.mu⟩, ?_⟩
  have E1 : EnvOk G fm ⟨pl.hs, pl.cs.filter fun a => decide (a ≠ p), pl.mu⟩ (env.wm (env.mem.set n none)) ks σ H := {
    ex := E.ex
    dom := E.dom
    tA := E.tA
    len := E.len
    bor := E.bor
    c0 := E.c0
    mup := E.mup
    ms0 := E.ms0
    msh := E.msh
    hn := E.hn
    cn := fun a h => E.cn a (ms a h)
    mem := by
      have old : ∀ {k : Nat} {x : D}, (env.mem.set n none)[k]? = some (some x) → k ≠ n ∧ env.mem[k]? = some (some x) := fun {k x} e => by
        rcases get_set e with ⟨rfl, _, z⟩ | ⟨hne, e⟩
        · cases z
        · exact ⟨hne, e⟩
      refine ⟨?_, fun k x e => ?_, fun j k x y q h1 h2 h3 h4 => ?_⟩
      · show pl.mu.length = (env.mem.set n none).length
        rw [List.length_set]; exact E.mem.len
      · obtain ⟨hne, e⟩ := old e
        obtain ⟨q, a, b, c⟩ := E.mem.cell k x e
        have nq : q ≠ p := fun z => hne (E.mem.inj k n x d p e hd (z ▸ a) hm)
        exact ⟨q, a, List.mem_filter.mpr ⟨b, decide_eq_true nq⟩, c.sub mm fun o e => e⟩
      · exact E.mem.inj j k x y q (old h1).2 (old h2).2 h3 h4
    slot := fun j s q => SlotOk.sub (E.slot j s q) mm (fun a m => m) (fun a _ o e => e) (fun a o _ e => e) mn
    inj := E.inj
    fr := fun k h => (E.fr k h).sub mm }
  have cold : Cold fm ⟨pl.hs, pl.cs.filter fun a => decide (a ≠ p), pl.mu⟩ p := ⟨(E.cn p hp).1.elim (fun z => .inr (.inr z)) fun z => .inr (.inl z), (E.cn p hp).2.2, fun z => by simpa using (List.mem_filter.mp z).2⟩
  obtain ⟨v, hσ, rv⟩ := E.slot i _ hi
  obtain ⟨q, rfl, hq⟩ := rv.ptr_inv
  have hqp : q = p := Option.some.inj (hq.symm.trans hm)
  subst hqp
  have sσ : σ.set i (some (.ref q)) = σ := by
    apply List.ext_getElem?
    intro j
    by_cases e : i = j
    · subst e
      rw [List.getElem?_set_self (List.getElem?_eq_some_iff.mp hσ).1, hσ]
    · rw [List.getElem?_set_ne e]
  have := E1.setCold (v := .ref q) (d := d) ((K.sub mm fun o e => e).rep cold) i
  rw [sσ] at this
  exact this
end
section
variable {X : Cx} {W : WX} {G : Cfg} {st : Stmt} {rest : List Stmt} {pos : Pos} {sa sb : Q.XS} {e a b o : Expr} {ea eb eo : Q.X}
/-- .. from the start -/
theorem acc_bind0 {fm : Fm} {pl : Pl} {env : Q.Env} {σ : L2.St} {H : Hp} {r : R} {f : D → Cl → Mem → R} {P : Pl → D → Cl → Mem → V → Hp → Prop} (h : AccR G W fm pl env σ H (r.bind f) P) :
    AccR G W fm pl env σ H r fun _ d c m _ _ => AccR G W fm pl env σ H (f d c m) P := by
  cases r with
  | ok d c m => exact fun pl' v H' E s q => h
  | exc k fs m => exact h
  | bad => exact h
theorem q_nw (ha : PE X a (tE G W ea)) : PE X a (tE G W (Q.nw ea)) :=
  ha.conv fun σ H P ⟨fm, pl, env, E, acc⟩ => tE_in E (acc_bind0 acc) fun pl1 d c m1 v H1 E1 s1 o1 acc1 => by
    cases c with
    | fresh =>
      obtain ⟨p, rfl, hp, hc, K, M⟩ := o1
      have acc1 : AccR G W fm pl env σ H (.ok (.ptr m1.length) .cold (m1 ++ [some d])) fun _ _ _ _ v H' => P v H' := acc1
      have s2 : Ext pl H (pl1.addC p) H1 := ⟨s1.keep, s1.dom, s1.hs, fun a m => (List.mem_cons.mp m).elim (fun z => .inr (z ▸ hp)) (s1.cs a), s1.mu.trans ⟨[p], rfl⟩⟩
      refine acc1 (pl1.addC p) _ H1 (E.ext s2 (fun a m => (List.mem_cons.mp m).elim (fun z => z ▸ K.lv) fun m => (E1.cn a m).2.1) (mem_add hc.2.2 K M)) s2 (Rep.ptr ?_)
      show (pl1.mu ++ [p])[m1.length]? = some p
      have hl : pl1.mu.length = m1.length := M.len
      rw [List.getElem?_append_right (by omega), hl, Nat.sub_self]; rfl
    | _ => exact acc1.elim
theorem s_kill {i : Nat} (h : PSs X rest (tS G W sb)) : PSs X rest (tS G W (Q.seq (Q.skill i) sb)) :=
  PSs.conv h fun T σ H ⟨fm, pl, env, ks, E, acc⟩ => by
    have e : Q.seq (Q.skill i) sb env = (Q.skS i env (env.sl[i]?)).bind sb := rfl
    rw [e] at acc
    cases q : env.sl[i]? with
    | none => rw [q] at acc; exact acc.elim
    | some s =>
      rw [q] at acc
      cases s with
      | cold d =>
        cases d with
        | ptr n =>
          have acc : AccS G W fm ks T ((Q.skT i n env (Q.at_ env.mem n)).bind sb) := acc
          cases z : Q.at_ env.mem n with
          | none => rw [z] at acc; exact acc.elim
          | some d =>
            rw [z] at acc
            obtain ⟨pl', E'⟩ := E.kill q (get_mem z)
            exact ⟨fm, pl', _, ks, E', acc⟩
        | _ => exact acc.elim
      | _ => exact acc.elim
theorem accS_pt {fm : Fm} {ks : List (V × D)} {T : Ends} {f : D → Option D} {e : Q.Env} {m : Mem} {p : D} (h : AccS G W fm ks T (Q.ptT f e m p)) : ∃ n d0 d1, p = .ptr n ∧ Q.at_ m n = some d0 ∧ f d0 = some d1 ∧ AccS G W fm ks T (.nx (e.wm (m.set n (some d1)))) := by
  cases p with
  | ptr n =>
    have h : AccS G W fm ks T (Q.setM n m e ((Q.at_ m n).bind f)) := h
    cases q : Q.at_ m n with
    | none => rw [q] at h; exact h.elim
    | some d0 =>
      rw [q] at h
      have h : AccS G W fm ks T (Q.setM n m e (f d0)) := h
      cases z : f d0 with
      | none => rw [z] at h; exact h.elim
      | some d1 => rw [z] at h; exact ⟨n, d0, d1, rfl, q, z, h⟩
  | _ => exact h.elim
theorem ls_ok {m : Mem} {p : D} (h : Q.lsM m p = true) : ∃ n ds, p = .ptr n ∧ Q.at_ m n = some (.lst ds) := by
  cases p with
  | ptr n =>
    have h : Q.isLO (Q.at_ m n) = true := h
    cases q : Q.at_ m n with
    | none => rw [q] at h; cases h
    | some d =>
      rw [q] at h
      cases d with
      | lst ds => exact ⟨n, ds, rfl, q⟩
      | _ => cases h
  | _ => cases h
theorem s_appP {pa pc : Pos} (ho : PE X o (tE G W eo)) (he : PE X e (tE G W ea))
    (hbase : attributeBase o "append" X.env (eval o X.env) = eval o X.env := by rfl)
    (hfew : ((backTo pc (starEach (e :: []) X.env)).all (fun x => !x.1) && (backToKw pc (keywordEach [] X.env)).all (fun x => x.1.isSome)
      && decide ((e :: []).length + ([] : List Keyword).length + (if ([] : List Keyword).isEmpty then 0 else 1) < 30)) = true := by rfl)
    (hline : (pa.endLine == pc.line) = true := by rfl) (hst : starEach (e :: []) X.env = (false, eval e X.env) :: starEach [] X.env := by rfl) (hplain : (backTo pc (starEach [] X.env)).any (·.1) = false := by rfl)
    (hs : swapsWith (.Call (.Attribute o "append" pa) [e] [] pc) none pos.line X.env = pure false := by rfl) :
    PS X (.Expr (.Call (.Attribute o "append" pa) [e] [] pc) pos) (tS G W (Q.sappP eo ea)) :=
  PS.conv (ps_expr (pe_bm PySem.F.plainAttrs_list PySem.F.slot_list_append PySem.F.type_list_append mt_append ho (pa_cons he pa_nil hst) hbase hfew hline hst hplain) hs) fun T σ H ⟨fm, pl, env, ks, E, acc⟩ =>
    tE_st E (accS_bind E acc) fun pl1 d c m1 v H1 E1 s1 o1 acc1 => by
      by_cases hl : Q.lsM m1 d = true
      · rw [if_pos hl] at acc1
        obtain ⟨n, ds0, rfl, z0⟩ := ls_ok hl
        obtain ⟨p, rfl, hmu, hcs, ⟨vs0, hH0, _⟩, _⟩ := cell_look E1 o1.anyR (show Q.at_ (env.wm m1).mem n = some _ from z0)
        refine ⟨.inl ⟨rfl, _, SqL.of hH0⟩, tE_st E1 (accS_bind E1 acc1) fun pl2 d2 c2 m2 v2 H2 E2 s2 o2 acc2 => ?_⟩
        obtain ⟨hd, acc3⟩ := accS_clean acc2
        obtain ⟨n', d0, d1, e1, z1, z2, acc4⟩ := accS_pt acc3
        cases e1
        have hmu2 := pre_get s2.mu hmu
        obtain ⟨p', a, b, K⟩ := E2.mem.cell n d0 (get_mem z1)
        have hpp : p' = p := Option.some.inj (a.symm.trans hmu2)
        subst hpp
        cases d0 with
        | lst ds =>
          have z2 : (if ds.length < Q.most then some (D.lst (ds ++ [d2])) else none) = some d1 := z2
          by_cases hm : ds.length < Q.most
          · rw [if_pos hm] at z2
            cases z2
            obtain ⟨vs, hH, rr⟩ := K
            refine ⟨p', vs, v2, rfl, rfl, hH, most_lt (by rw [rr.1]; exact hm), acc4 pl2 _ _ (E2.writeCell (get_mem z1) hmu2 b ⟨vs ++ [v2], upd_same, (rr.append (Reps.cons (o2.clean hd) Reps.nil)).sub (upd_cold (.inr b))⟩)⟩
          · rw [if_neg hm] at z2; cases z2
        | _ => cases z2
      · rw [if_neg hl] at acc1; exact acc1.elim
theorem s_clearP {pa pc : Pos} (ho : PE X o (tE G W eo)) (hbase : attributeBase o "clear" X.env (eval o X.env) = eval o X.env := by rfl) (hline : (pa.endLine == pc.line) = true := by rfl)
    (hs : swapsWith (.Call (.Attribute o "clear" pa) [] [] pc) none pos.line X.env = pure false := by rfl) :
    PS X (.Expr (.Call (.Attribute o "clear" pa) [] [] pc) pos) (tS G W (Q.sclearP eo)) :=
  PS.conv (ps_expr (pe_bm0 PySem.F.plainAttrs_list PySem.F.slot_list_clear PySem.F.type_list_clear mt_clear ho hbase hline) hs) fun T σ H ⟨fm, pl, env, ks, E, acc⟩ =>
    tE_st E (accS_bind E acc) fun pl1 d c m1 v H1 E1 s1 o1 acc1 => by
      obtain ⟨n, d0, d1, rfl, z1, z2, acc4⟩ := accS_pt acc1
      obtain ⟨p, rfl, hmu, hcs, K, _⟩ := cell_look E1 o1.anyR (show Q.at_ (env.wm m1).mem n = some _ from z1)
      cases d0 with
      | lst ds =>
        cases z2
        obtain ⟨vs, hH, rr⟩ := K
        exact ⟨.inl ⟨rfl, _, SqL.of hH⟩, p, vs, rfl, rfl, hH, acc4 pl1 _ _ (E1.writeCell (get_mem z1) hmu hcs ⟨[], upd_same, Reps.nil⟩)⟩
      | _ => cases z2
theorem s_putP {tpos : Pos} (ho : PE X o (tE G W eo)) (he : PE X e (tE G W ea)) (hb : PE X b (tE G W eb))
    (ha : ∀ v, assign (.Subscript o b tpos) X.env v = (holding [v] (eval o X.env) >>= fun ov => holding [v, ov] (eval b X.env) >>= fun iv => standAt tpos >>= fun _ => holding [v, ov, iv] (setItem ov iv v) >>= fun _ => release [v, ov, iv] []) := by intro _; rfl)
    (hs : swapsWithSole [.Subscript o b tpos] e pos.line X.env = pure false := by rfl) (hw : swappedStores [.Subscript o b tpos] e X.env = pure none := by rfl)
    (h1 : (assignEach [.Subscript o b tpos] X.env).map (·.2) = [assign (.Subscript o b tpos) X.env] := by rfl) :
    PS X (.Assign [.Subscript o b tpos] e pos) (tS G W (Q.sputP eo eb ea)) :=
  PS.conv (ps_asg he (pg_sub ho hb set_list ha) hs hw h1) fun T σ H ⟨fm, pl, env, ks, E, acc⟩ => tE_st E (accS_bind E acc) fun pl1 d c m1 v H1 E1 s1 o1 acc1 => by
    obtain ⟨hd, acc2⟩ := accS_clean acc1
    refine tE_st E1 (accS_bind E1 acc2) fun pl2 d2 c2 m2 v2 H2 E2 s2 o2 acc3 => tE_st E2 (accS_bind E2 acc3) fun pl3 d3 c3 m3 v3 H3 E3 s3 o3 acc4 => ?_
    obtain ⟨n, d0, d1, rfl, z1, z2, acc5⟩ := accS_pt acc4
    obtain ⟨p, rfl, hmu, hcs, K, _⟩ := cell_look E3 (o2.anyR.sub s3.tr) (show Q.at_ (env.wm m3).mem n = some _ from z1)
    cases d0 with
    | lst ds =>
      cases d3 with
      | int k =>
        cases (o3.anyR)
        have z2 : (Q.ixN ds.length k).map (fun j => D.lst (ds.set j d)) = some d1 := z2
        cases hj : Q.ixN ds.length k with
        | none => rw [hj] at z2; cases z2
        | some j =>
          rw [hj] at z2
          cases z2
          obtain ⟨vs, hH, rr⟩ := K
          exact ⟨p, vs, k, j, rfl, rfl, hH, by rw [rr.1]; exact hj, acc5 pl3 _ _ (E3.writeCell (get_mem z1) hmu hcs ⟨vs.set j v, upd_same, (rr.set ((o1.clean hd).sub (s2.trans s3).cold) j).sub (upd_cold (.inr hcs))⟩)⟩
      | _ => cases z2
    | _ => cases d3 <;> cases z2
theorem s_fldP {n k : Nat} {nm : Str} {tpos : Pos} (hK : X.K = G.K) (C : ClsOk G n) (ho : PE X o (tE G W eo)) (he : PE X e (tE G W ea)) (hk : (G.names n)[k]? = some nm := by rfl)
    (hs : swapsWith e (some (.Attribute o nm tpos)) pos.line X.env = pure false := by rfl) :
    PS X (.Assign [.Attribute o nm tpos] e pos) (tS G W (Q.sfldP n k eo ea)) :=
  PS.conv (ps_fld ho he hs) fun T σ H ⟨fm, pl, env, ks, E, acc⟩ => tE_st E (accS_bind E acc) fun pl1 d c m1 v H1 E1 s1 o1 acc1 => by
    obtain ⟨hd, acc2⟩ := accS_clean acc1
    refine tE_st E1 (accS_bind E1 acc2) fun pl2 d2 c2 m2 v2 H2 E2 s2 o2 acc3 => ?_
    obtain ⟨q, d0, d1, rfl, z1, z2, acc5⟩ := accS_pt acc3
    obtain ⟨p, rfl, hmu, hcs, K, _⟩ := cell_look E2 o2.anyR (show Q.at_ (env.wm m2).mem q = some _ from z1)
    cases d0 with
    | obj r ds =>
      have z2 : (if r = n then (Q.putF k ds d).map (D.obj n) else none) = some d1 := z2
      by_cases hr : r = n
      · subst hr
        rw [if_pos rfl] at z2
        cases z : Q.putF k ds d with
        | none => rw [z] at z2; cases z2
        | some es =>
          rw [z] at z2
          cases z2
          obtain ⟨dx, vs, hH, rr⟩ := K
          obtain ⟨us, h1, h2⟩ := fput C hk rr ((o1.clean hd).sub s2.cold) z
          refine ⟨p, _, dx, _, rfl, hH, hK ▸ C.cl, hK ▸ C.no _ (List.mem_of_getElem? hk), zip_few C vs, ?_⟩
          rw [h1]
          exact acc5 pl2 _ _ (E2.writeCell (get_mem z1) hmu hcs ⟨dx, us, upd_same, h2.sub (upd_cold (.inr hcs))⟩)
      · rw [if_neg hr] at z2; cases z2
    | _ => cases z2
end
end QW

set_option Elab.async false
set_option linter.all false
set_option maxRecDepth 100000
set_option maxHeartbeats 4000000
namespace QW
open PySem PySem.Spec PyProof.Rows L2
open Q (D R RA RB Ctl Cl S Mem)
section
variable {X : Cx} {G : Cfg} {W : WX} {body : List Stmt} {h₀ : ExceptHandler} {hds : List ExceptHandler} {pos : Pos} {sb : Q.XS}
theorem accS_calm {fm : Fm} {ks : List (V × D)} {T : Ends} {r : Ctl} (h : AccS G W fm ks T (Q.tnS r)) : AccS G noW fm ks T r := by
  cases r with
  | exc k fs e => exact h.elim
  | _ => exact h
theorem s_tryN (hb : PSs X.nox body (tS G noW sb)) : PS X (.Try body (h₀ :: hds) [] [] pos) (tS G W (Q.stryN sb)) :=
  PS.conv (ps_try_thru0 hb) fun T σ H ⟨fm, pl, env, ks, E, acc⟩ => ⟨fm, pl, env, ks, E, accS_calm acc⟩
end
/-! ### the error that a suite holds -/
def Cfg.hold (G : Cfg) (x : Option (Addr × Value × Option Addr)) : Cfg := { G with exn := x }
section
variable {G : Cfg} {x : Option (Addr × Value × Option Addr)} {A : Reg} {N : Addr → Prop} {H : Hp} {v : V} {d : D} {vs : List V} {ds : List D} {p : Addr}
theorem Rep.hold (h : Rep G A H v d) : Rep (G.hold x) A H v d := by
  induction h with
  | non => exact .non
  | bl b => exact .bl b
  | int i => exact .int i
  | str s => exact .str s
  | lst ha h hl _ ih => exact .lst ha h hl ih
  | tup ha h hl _ ih => exact .tup ha h hl ih
  | frz h => exact .frz h
  | obj ha h hl _ ih => exact .obj (G := G.hold x) ha h hl ih
  | dik ha h hl hk _ ih => exact .dik ha h hl hk ih
  | dtk ha h hl hk _ ih => exact .dtk ha h hl hk ih
  | ptr h => exact .ptr h
theorem Rep.unhold (h : Rep (G.hold x) A H v d) : Rep G A H v d := by
  induction h with
  | non => exact .non
  | bl b => exact .bl b
  | int i => exact .int i
  | str s => exact .str s
  | lst ha h hl _ ih => exact .lst ha h hl ih
  | tup ha h hl _ ih => exact .tup ha h hl ih
  | frz h => exact .frz h
  | obj ha h hl _ ih => exact .obj ha h hl ih
  | dik ha h hl hk _ ih => exact .dik ha h hl hk ih
  | dtk ha h hl hk _ ih => exact .dtk ha h hl hk ih
  | ptr h => exact .ptr h
/-- two ways to hold an error: what is told of things is the same -/
structure Alike (G G' : Cfg) : Prop where
  rep : ∀ {A : Reg} {H : Hp} {v : V} {d : D}, Rep G A H v d → Rep G' A H v d
  cls : G'.cls = G.cls
  names : G'.names = G.names
theorem alike_hold : Alike G (G.hold x) := ⟨fun r => Rep.hold r, rfl, rfl⟩
theorem alike_unhold : Alike (G.hold x) G := ⟨fun r => Rep.unhold r, rfl, rfl⟩
end
section
variable {G G' : Cfg} {A : Reg} {N : Addr → Prop} {H : Hp} {v : V} {d : D} {vs : List V} {ds : List D} {p : Addr}
theorem Alike.reps (L : Alike G G') (h : Reps G A H vs ds) : Reps G' A H vs ds := ⟨h.1, fun i v d a b => L.rep (h.2 i v d a b)⟩
theorem Alike.con (L : Alike G G') (h : Con G A H p d) : Con G' A H p d := by
  cases d with
  | lst ds => obtain ⟨vs, a, b⟩ := h; exact ⟨vs, a, L.reps b⟩
  | obj c ds => obtain ⟨dx, vs, a, b⟩ := h; exact ⟨dx, vs, by rw [L.cls, L.names]; exact a, L.reps b⟩
  | dik kvs => obtain ⟨ws, a, b⟩ := h; exact ⟨ws, a, b.1, fun i w x e f => ⟨(b.2 i w x e f).1, L.rep (b.2 i w x e f).2⟩⟩
  | dtk kvs => obtain ⟨ws, a, b⟩ := h; exact ⟨ws, a, b.1, fun i w x e f => ⟨(b.2 i w x e f).1, L.rep (b.2 i w x e f).2⟩⟩
  | _ => exact h.elim
theorem Alike.mem (L : Alike G G') {cs : List Addr} {m : Mem} (h : MemOk G A cs H m) : MemOk G' A cs H m := ⟨h.len, fun n d e => by
  obtain ⟨p, a, b, c⟩ := h.cell n d e
  exact ⟨p, a, b, L.con c⟩, h.inj⟩
theorem Alike.repX (L : Alike G G') {cls : Value} {dd : Option Addr} {k : Nat} {fs : List D} (h : RepX G A N H cls dd k fs) : RepX G' A N H cls dd k fs := by
  obtain ⟨e, h⟩ := h
  refine ⟨by rw [L.cls]; exact e, ?_⟩
  rcases h with h | ⟨h0, a, fvs, h1, hn, h2, h3⟩
  · exact .inl h
  · refine .inr ⟨h0, a, fvs, h1, hn, h2, fun i f d q r => ?_⟩
    rw [L.names] at q
    obtain ⟨v, x, y⟩ := h3 i f d q r
    exact ⟨v, x, L.rep y⟩
theorem Alike.rtv (L : Alike G G') {fm : Fm} {pl : Pl} {m : Mem} {c : Cl} (h : RtV G fm pl m H v d c) : RtV G' fm pl m H v d c := by
  cases c with
  | cold => exact L.rep h
  | taint => exact L.rep h
  | fresh => obtain ⟨p, a, b, c, d, e⟩ := h; exact ⟨p, a, b, c, L.con d, L.mem e⟩
  | hot => obtain ⟨p, a, b, c, d⟩ := h; exact ⟨p, a, b, c, L.con d⟩
end
theorem off_get {e : Q.Env} {i : Nat} {s : S} (h : (Q.offE e).sl[i]? = some s) : s = .no ∨ (e.sl[i]? = some s ∧ ∀ k fs, s ≠ .exn k fs) := by
  have h : (e.sl.map Q.offS)[i]? = some s := h
  rw [List.getElem?_map] at h
  cases q : e.sl[i]? with
  | none => rw [q] at h; cases h
  | some t =>
    rw [q] at h
    have h := Option.some.inj h
    cases t with
    | exn k fs => exact .inl h.symm
    | _ => subst h; exact .inr ⟨rfl, fun k fs z => nomatch z⟩
theorem off_hot {e : Q.Env} {i : Nat} {s : S} (h : (Q.offE e).sl[i]? = some s) (hh : isHot s) : e.sl[i]? = some s := by
  rcases off_get h with rfl | h
  · exact hh.elim
  · exact h.1
section
variable {G G' : Cfg} {fm : Fm} {pl : Pl} {env : Q.Env} {ks : List (V × D)} {σ : L2.St} {H : Hp}
/-- the same names, another held error: the slots without it -/
theorem EnvOk.off (E : EnvOk G fm pl env ks σ H) (L : Alike G G') : EnvOk G' fm pl (Q.offE env) ks σ H where
  ex := E.ex
  dom := E.dom
  tA := E.tA
  len := by
    show σ.length = (env.sl.map Q.offS).length
    rw [E.len, List.length_map]
  bor := E.bor
  c0 := E.c0
  mup := E.mup
  ms0 := E.ms0
  msh := E.msh
  hn := E.hn
  cn := E.cn
  mem := L.mem E.mem
  slot := fun i s q => by
    rcases off_get q with rfl | ⟨q, ne⟩
    · trivial
    · have sl := E.slot i s q
      cases s with
      | no => trivial
      | cold d =>
        obtain ⟨v, a, b⟩ := sl
        exact ⟨v, a, L.rep b⟩
      | hot d =>
        obtain ⟨p, a, b, n, c⟩ := sl
        exact ⟨p, a, b, n, L.con c⟩
      | slf k ds =>
        obtain ⟨p, a, b, n, c⟩ := sl
        exact ⟨p, a, b, n, L.con c⟩
      | bor d =>
        obtain ⟨v, a, b⟩ := sl
        exact ⟨v, a, L.rep b⟩
      | exn k fs => exact absurd rfl (ne k fs)
  inj := fun i j s t p a b c d e f => E.inj i j s t p (off_hot a c) (off_hot b d) c d e f
  fr := fun k q => L.rep (E.fr k q)
end
section
variable {X : Cx} {G : Cfg} {W : WX} {pos pos' p p1 p2 np : Pos} {x y m : Str} {j : Nat}
/-- raise C('..') -/
theorem s_raise {c : Nat} {bmB : List Value} {B newId initId : String} (F : ExcBaseFacts B newId initId bmB) (hc : X.calm = true) (tk : Takes X W) (q : PySem.W.excIn X.K (G.cls c) bmB newId = true) (gC : X.mg x = some (.ref (G.cls c))) (kC : PySem.W.keepIn X.K (.ref (G.cls c)) = true)
    (b1 : PySem.W.subIn X.K (.ref (G.cls c)) (.type "BaseException") = some true) (b2 : PySem.W.typeIn X.K (.ref (G.cls c)) = some (.type "type")) (hg : Gl X x := by rfl) (hdb : (x == ("__debug__" : Str)) = false := by decide) :
    PS X (.Raise (some (.Call (.Name x p) [.Constant (.str m) j p2] [] pos)) none pos') (tS G W (Q.sraise c)) :=
  PS.conv (ps_raise hc tk (pmk_own F q gC kC (raises_own b1 b2) hg hdb)) fun T σ H ⟨fm, pl, env, ks, E, acc⟩ =>
    (acc : ∀ cls dd pl σ H, EnvOk G fm pl env ks σ H → RepX G (Cold fm pl) (New fm pl) H cls dd c [] → W cls dd σ H) _ _ pl σ H E ⟨rfl, .inl ⟨rfl, rfl⟩⟩
/-- try: body except C as n: suite (the suite raises nothing) -/
theorem s_tryX {i : Nat} {n : Str} {c : Value} {mm : Nat → Option Bool} {body suite : List Stmt} {b₀ : Stmt} {sb hb : Q.XS} (hm : ∀ k b, mm k = some b → PySem.W.exmOne X.K (.ref (G.cls k)) c = some b)
    (hs : X.stack = X.env :: X.outer) (hf : X.env.frame = some X.env.locals) (hN : X.N.Nodup) (hi : X.N[i]? = some n) (hln : X.env.kindOf n = some .local) (hc : Names X x c) (tk : Takes X W)
    (hbd : ∀ (W' : WX) (pn : List (Addr × Obj)) (xe : Value → Shared → Prop), Takes (X.tr pn xe) W' → PassesOwn (model X.prog X.w) X.A X.env xe → PSs (X.tr pn xe) body (tS G W' sb))
    (hsu : ∀ (a : Addr) (oe : Obj) (cls : Value) (d : Option Addr) (pn : List (Addr × Obj)), Zc cls d oe → (∃ vs, oe.data = .fields vs) → PSs (X.suite a ((a, oe) :: pn)) (b₀ :: suite) (tS (G.hold (some (a, cls, d))) noW hb)) :
    PS X (.Try body [.ExceptHandler (some (.Name x np)) (some n) (b₀ :: suite) pos'] [] [] pos) (tS G W (Q.stryX i mm sb hb)) :=
  PS.conv (ps_try_as (tb := fun W => tS G W sb) (ts := fun a cls d => tS (G.hold (some (a, cls, d))) noW hb) hs hf hN hi hln hc tk hbd hsu) fun T σ H ⟨fm, pl, env, ks, E, acc⟩ => by
    refine ⟨fm, pl, env, ks, E, ?_⟩
    have acc : AccS G W fm ks T (Q.trS i mm hb (sb env)) := acc
    cases q : sb env with
    | nx e => rw [q] at acc; exact acc
    | rt d c e => rw [q] at acc; exact acc
    | bk e => rw [q] at acc; exact acc
    | ct e => rw [q] at acc; exact acc
    | bad => rw [q] at acc; exact acc
    | exc k fs e1 =>
      rw [q] at acc
      have acc : AccS G W fm ks T (Q.trX i hb k fs e1 (mm k)) := acc
      intro cls dd pl' σ' H' E' rx
      cases hk : mm k with
      | none => rw [hk] at acc; exact acc.elim
      | some b =>
        rw [hk] at acc
        refine ⟨b, by rw [rx.1]; exact hm k b hk, fun hb1 => ?_, fun hb1 => ?_⟩
        · subst hb1
          intro a ha
          have acc : AccS G W fm ks T (Q.sufC i (hb ((Q.offE e1).set i (.exn k fs)))) := acc
          have E2 : EnvOk (G.hold (some (a, cls, dd))) fm pl' ((Q.offE e1).set i (.exn k fs)) ks (σ'.set i (some (.ref a))) H' :=
            EnvOk.putNo (s1 := .exn k fs) (o := some (.ref a)) (E'.off alike_hold) (fun z => z) fun _ => ⟨a, cls, dd, rfl, rfl, alike_hold.repX rx⟩
          refine ⟨fm, pl', _, ks, E2, ?_⟩
          have back : ∀ {pl2 : Pl} {e2 : Q.Env} {σ2 : L2.St} {H2 : Hp}, EnvOk (G.hold (some (a, cls, dd))) fm pl2 e2 ks σ2 H2 → EnvOk G fm pl2 ((Q.offE e2).set i .no) ks (σ2.set i none) H2 := fun E3 =>
            EnvOk.putNo (s1 := .no) (o := none) (E3.off alike_unhold) (fun z => z) fun _ => trivial
          cases q2 : hb ((Q.offE e1).set i (.exn k fs)) with
          | nx e2 => rw [q2] at acc; exact fun pl2 σ2 H2 E3 => acc pl2 _ H2 (back E3)
          | bk e2 => rw [q2] at acc; exact fun pl2 σ2 H2 E3 => acc pl2 _ H2 (back E3)
          | ct e2 => rw [q2] at acc; exact fun pl2 σ2 H2 E3 => acc pl2 _ H2 (back E3)
          | rt d c e2 => rw [q2] at acc; exact fun v pl2 σ2 H2 E3 r => acc v pl2 _ H2 (back E3) (alike_unhold.rtv r)
          | exc k2 fs2 e2 => rw [q2] at acc; exact acc.elim
          | bad => rw [q2] at acc; exact acc.elim
        · subst hb1
          exact acc cls dd pl' σ' H' E' rx
end
/-! ### isinstance of the held error, its fields -/
/-- isinstance(e, c), e the exception that the suite holds, with or without a dict of its own -/
def rIsX (K : PySem.W.Frag) (D a : Addr) (dd : Option Addr) : List V → Hp → VK → Prop := fun xs H Q => ∃ (c : V) (cv : Value) (b : Bool), xs = [.ref a, c] ∧ (∀ u, RelV c u → u = cv) ∧ PySem.W.kitOne K (.ref D) cv = some b ∧ (∀ q, dd = some q → ∃ fs, H q = some (.xd fs)) ∧ Q (.bl b) H
theorem call_isX {X : Cx} {a D : Addr} {dd : Option Addr} {oe : Obj} {pn : List (Addr × Obj)} (C : ExcC X.K D) (hz : Zc (.ref D) dd oe) (hf : ∃ vs, oe.data = .fields vs) : CallR (X.suite a ((a, oe) :: pn)) (.builtin "isinstance") (rIsX X.K D a dd) := by
  intro pins s σ H xs us Q I r h
  obtain ⟨c, cv, b, rfl, hcv, e, hdd, q⟩ := h
  obtain ⟨cd0, hc0, _⟩ := PySem.W.any_some C.hd
  have hcl : (PySem.W.clsIn X.K D).isSome = true := by rw [hc0]; rfl
  cases r with
  | cons rx rr =>
    cases rr with
    | cons rt rr =>
      cases rr
      cases rx
      have ec := hcv _ rt
      subst ec
      obtain ⟨hget, _⟩ := I.pin (a, oe) (List.mem_append.mpr (.inl List.mem_cons_self))
      obtain ⟨vs, hv⟩ := hf
      have J : ∃ od, PySem.W.InstAt s.heap a oe D od := by
        obtain ⟨oc, od, oda, osl⟩ := oe
        obtain ⟨h1, h2⟩ := hz
        dsimp only at h1 h2 hv
        subst h1 h2 hv
        cases od with
        | none => exact ⟨none, hget, rfl, rfl, trivial⟩
        | some q' =>
          obtain ⟨fs, hq⟩ := hdd q' rfl
          have hx : ObjOk X.prog X.w H s.heap q' (.xd fs) := I.hok q' _ hq
          obtain ⟨mA, hns, _⟩ := hx
          obtain ⟨od, ho, _⟩ := lookIn_ns hns
          exact ⟨some od, hget, rfl, rfl, ho⟩
      obtain ⟨od, J⟩ := J
      exact PySem.W.kia_one (PySem.W.kitx_exc hcl C.hg C.hk C.hs C.ha C.hn C.ht C.hm) I.kIn J e (fun z => nomatch z) fun tk => ⟨.bl b, H, I.kept (t' := tk) fun _ _ z => z, rfl, q⟩
section
variable {X : Cx} {G : Cfg} {W : WX} {a : Addr} {oe : Obj} {cls : Value} {d : Option Addr} {pn : List (Addr × Obj)} {i n j : Nat} {f y x : Str} {p p1 p2 pos : Pos} {r : Bool}
theorem exis_of {fm : Fm} {pl : Pl} {env : Q.Env} {ks : List (V × D)} {σ : L2.St} {H : Hp} {P : Pl → D → Cl → Mem → V → Hp → Prop} (E : EnvOk (G.hold (some (a, cls, d))) fm pl env ks σ H) (acc : AccR (G.hold (some (a, cls, d))) W fm pl env σ H (Q.exis n i r env) P) :
    cls = .ref (G.cls n) ∧ (∀ q, d = some q → ∃ fs, H q = some (.xd fs)) ∧ σ[i]? = some (some (.ref a)) ∧ P pl (.bl r) .cold env.mem (.bl r) H := by
  have e : Q.exis n i r env = Q.exI n r env.mem (env.sl[i]?) := rfl
  rw [e] at acc
  cases q : env.sl[i]? with
  | none => rw [q] at acc; exact acc.elim
  | some s =>
    have sl := E.slot i s q
    rw [q] at acc
    cases s with
    | exn k fs =>
      obtain ⟨a', cls', dd', h1, h2, h3⟩ := sl
      have h1 : (some (a, cls, d) : Option (Addr × Value × Option Addr)) = some (a', cls', dd') := h1
      cases h1
      have acc : AccR (G.hold (some (a, cls, d))) W fm pl env σ H (if k = n then R.ok (.bl r) .cold env.mem else .bad) P := acc
      by_cases hk : k = n
      · subst hk
        rw [if_pos rfl] at acc
        refine ⟨h3.1, fun q' hq => ?_, h2, acc pl _ H E.drop (Ext.refl _) (Rep.bl r)⟩
        rcases h3.2 with ⟨_, z⟩ | ⟨_, b, fvs, g1, _, g2, _⟩
        · rw [z] at hq; cases hq
        · rw [g1] at hq; cases hq; exact ⟨fvs, g2⟩
      · rw [if_neg hk] at acc; exact acc.elim
    | _ => exact acc.elim
/-- isinstance(e, C), C a class of the text, e the held error -/
theorem q_exis {C : Addr} (T : ExcC X.K (G.cls n)) (hz : Zc cls d oe) (hf : ∃ vs, oe.data = .fields vs) (hk : PySem.W.kitOne X.K (.ref (G.cls n)) (.ref C) = some r) (hmC : X.mg x = some (.ref C)) (hm : X.mg "isinstance" = none)
    (hN : X.N[i]? = some y := by rfl) (hv : Vis X.env.scope y := by first | exact Or.inl rfl | exact Or.inr (Or.inl rfl) | exact Or.inr (Or.inr rfl)) (hg : Gl X "isinstance" := by rfl) (hgx : Gl X x := by rfl)
    (hd : (y == ("__debug__" : Str)) = false := by decide) (hcd : (y == ("__classdict__" : Str)) = false := by decide) (hdb : (x == ("__debug__" : Str)) = false := by decide)
    (he : starEach (.Name y p1 :: [.Name x p2]) X.env = (false, eval (.Name y p1) X.env) :: starEach [.Name x p2] X.env := by rfl) (he2 : starEach (.Name x p2 :: []) X.env = (false, eval (.Name x p2) X.env) :: starEach [] X.env := by rfl) (hpl : (backTo pos (starEach [.Name x p2] X.env)).any (·.1) = false := by rfl) :
    PE (X.suite a ((a, oe) :: pn)) (.Call (.Name "isinstance" p) [.Name y p1, .Name x p2] [] pos) (tE (G.hold (some (a, cls, d))) W (Q.exis n i r)) := by
  by_cases h : cls = .ref (G.cls n)
  · subst h
    have cr := call_isX (X := X) (a := a) (pn := pn) T hz hf
    have vy : PE (X.suite a ((a, oe) :: pn)) (.Name y p1) (tVar i) := pv (X := X.suite a ((a, oe) :: pn)) i hN hv hd hcd
    have vx : PE (X.suite a ((a, oe) :: pn)) (.Name x p2) (tC (.ref C)) := pe_glob (X := X.suite a ((a, oe) :: pn)) hgx hmC rfl hdb
    refine (pe_callB (X := X.suite a ((a, oe) :: pn)) cr hg hm (by decide +kernel) (pa_cons vy (pa_cons vx pa_nil he2) he) (by decide) (by decide) he hpl).conv fun σ H P ⟨fm, pl, env, E, acc⟩ => ?_
    obtain ⟨_, h1, h2, h3⟩ := exis_of E acc
    exact ⟨_, h2, .ref C, .ref C, r, rfl, fun u z => z, hk, h1, h3⟩
  · exact ⟨fun pins s σ H Q I ⟨fm, pl, env, E, acc⟩ => absurd (exis_of E acc).1 h⟩
/-- isinstance(e, ValueError) and the like -/
theorem q_exisB {T' : String} (T : ExcC X.K (G.cls n)) (hz : Zc cls d oe) (hf : ∃ vs, oe.data = .fields vs) (hk : PySem.W.kitOne X.K (.ref (G.cls n)) (.type T') = some r) (hmC : X.mg x = none) (hm : X.mg "isinstance" = none) (hbt : bootBuiltins x = some (.type T'))
    (hN : X.N[i]? = some y := by rfl) (hv : Vis X.env.scope y := by first | exact Or.inl rfl | exact Or.inr (Or.inl rfl) | exact Or.inr (Or.inr rfl)) (hg : Gl X "isinstance" := by rfl) (hgx : Gl X x := by rfl) (hnn : x ≠ "__name__" := by decide)
    (hd : (y == ("__debug__" : Str)) = false := by decide) (hcd : (y == ("__classdict__" : Str)) = false := by decide) (hdb : (x == ("__debug__" : Str)) = false := by decide)
    (he : starEach (.Name y p1 :: [.Name x p2]) X.env = (false, eval (.Name y p1) X.env) :: starEach [.Name x p2] X.env := by rfl) (he2 : starEach (.Name x p2 :: []) X.env = (false, eval (.Name x p2) X.env) :: starEach [] X.env := by rfl) (hpl : (backTo pos (starEach [.Name x p2] X.env)).any (·.1) = false := by rfl) :
    PE (X.suite a ((a, oe) :: pn)) (.Call (.Name "isinstance" p) [.Name y p1, .Name x p2] [] pos) (tE (G.hold (some (a, cls, d))) W (Q.exis n i r)) := by
  by_cases h : cls = .ref (G.cls n)
  · subst h
    have cr := call_isX (X := X) (a := a) (pn := pn) T hz hf
    have vy : PE (X.suite a ((a, oe) :: pn)) (.Name y p1) (tVar i) := pv (X := X.suite a ((a, oe) :: pn)) i hN hv hd hcd
    have vx : PE (X.suite a ((a, oe) :: pn)) (.Name x p2) (tC (.ty T')) := pe_bltn (X := X.suite a ((a, oe) :: pn)) hgx hmC hbt rfl hnn hdb
    refine (pe_callB (X := X.suite a ((a, oe) :: pn)) cr hg hm (by decide +kernel) (pa_cons vy (pa_cons vx pa_nil he2) he) (by decide) (by decide) he hpl).conv fun σ H P ⟨fm, pl, env, E, acc⟩ => ?_
    obtain ⟨_, h1, h2, h3⟩ := exis_of E acc
    exact ⟨_, h2, .ty T', .type T', r, rfl, fun u z => z, hk, h1, h3⟩
  · exact ⟨fun pins s σ H Q I ⟨fm, pl, env, E, acc⟩ => absurd (exis_of E acc).1 h⟩
/-- e.f, e the error that the suite holds -/
theorem q_exf (T : XfC X.K (G.cls n)) (hno : PySem.W.findIn X.K (.ref (G.cls n)) f = some none) (hnm : (G.names n)[j]? = some f) (hz : Zc cls d oe) (hf : ∃ vs, oe.data = .fields vs)
    (hN : X.N[i]? = some y := by rfl) (hv : Vis X.env.scope y := by first | exact Or.inl rfl | exact Or.inr (Or.inl rfl) | exact Or.inr (Or.inr rfl))
    (hd : (y == ("__debug__" : Str)) = false := by decide) (hcd : (y == ("__classdict__" : Str)) = false := by decide) (hb : attributeBase (.Name y p) f X.env (eval (.Name y p) X.env) = eval (.Name y p) X.env := by rfl) :
    PE (X.suite a ((a, oe) :: pn)) (.Attribute (.Name y p) f pos) (tE (G.hold (some (a, cls, d))) W (Q.exf n i j)) := by
  have vy : PE (X.suite a ((a, oe) :: pn)) (.Name y p) (tVar i) := pv (X := X.suite a ((a, oe) :: pn)) i hN hv hd hcd
  refine (pe_xf (X := X) T hno hz hf vy hb).conv fun σ H P ⟨fm, pl, env, E, acc⟩ => ?_
  have e : Q.exf n i j env = Q.exF n j env.mem (env.sl[i]?) := rfl
  rw [e] at acc
  cases q : env.sl[i]? with
  | none => rw [q] at acc; exact acc.elim
  | some s =>
    have sl := E.slot i s q
    rw [q] at acc
    cases s with
    | exn k fs =>
      obtain ⟨a', cls', dd', h1, h2, h3⟩ := sl
      have h1 : (some (a, cls, d) : Option (Addr × Value × Option Addr)) = some (a', cls', dd') := h1
      cases h1
      have acc : AccR (G.hold (some (a, cls, d))) W fm pl env σ H (if k = n then Q.exG env.mem (fs[j]?) else .bad) fun _ _ _ _ v H' => P v H' := acc
      by_cases hk : k = n
      · subst hk
        rw [if_pos rfl] at acc
        cases q2 : fs[j]? with
        | none => rw [q2] at acc; exact acc.elim
        | some x =>
          rw [q2] at acc
          obtain ⟨hc, ⟨z, _⟩ | ⟨_, b, fvs, g1, _, g2, g3⟩⟩ := h3
          · rw [z] at q2; simp at q2
          · obtain ⟨v, l, rv⟩ := g3 j f x hnm q2
            exact ⟨_, h2, rfl, hc, b, fvs, v, g1, g2, l, acc pl v H E (Ext.refl _) rv⟩
      · rw [if_neg hk] at acc; exact acc.elim
    | _ => exact acc.elim
end
theorem exm_nil {K : PySem.W.Frag} {G : Cfg} {c : Value} : ∀ k b, ([] : List (Nat × Bool)).lookup k = some b → PySem.W.exmOne K (.ref (G.cls k)) c = some b := fun k b h => by simp at h
theorem exm_cons {K : PySem.W.Frag} {G : Cfg} {c : Value} {n : Nat} {r : Bool} {l : List (Nat × Bool)} (h : PySem.W.exmOne K (.ref (G.cls n)) c = some r) (t : ∀ k b, l.lookup k = some b → PySem.W.exmOne K (.ref (G.cls k)) c = some b) :
    ∀ k b, ((n, r) :: l).lookup k = some b → PySem.W.exmOne K (.ref (G.cls k)) c = some b := fun k b e => by
  rw [List.lookup_cons] at e
  by_cases hk : (k == n) = true
  · rw [hk] at e
    have hk := eq_of_beq hk
    cases e
    rw [hk]; exact h
  · rw [Bool.eq_false_iff.mpr hk] at e
    exact t k b e
theorem kit_ref {K : PySem.W.Frag} {D C : Addr} {b : Bool} (hd : PySem.W.hasDictIn K C = true) (ty : PySem.W.typeIn K (.ref C) = some (.type "type")) (h : PySem.W.subIn K (.ref D) (.ref C) = some b) (hs : PySem.W.subIn K (.ref D) (.ref D) = some true) : PySem.W.kitOne K (.ref D) (.ref C) = some b := by
  unfold PySem.W.kitOne
  by_cases e : (Value.ref D == Value.ref C) = true
  · rw [if_pos e]
    have e := eq_of_beq e
    rw [← e] at h
    rw [hs] at h
    exact h
  · rw [if_neg e]
    obtain ⟨cd, hc, _⟩ := PySem.W.any_some hd
    show (if ((PySem.W.clsIn K C).isSome && PySem.W.typeIn K (.ref C) == some (.type "type")) = true then PySem.W.subIn K (.ref D) (.ref C) else none) = some b
    rw [if_pos (by rw [hc, ty] <;> rfl)]
    exact h
theorem kit_blt {K : PySem.W.Frag} {D : Addr} {T : String} {b : Bool} (m : PySem.W.kitMeta T = true) (h : PySem.W.subIn K (.ref D) (.type T) = some b) : PySem.W.kitOne K (.ref D) (.type T) = some b := by
  unfold PySem.W.kitOne
  rw [if_neg (by intro e; have := eq_of_beq e; cases this)]
  show (if PySem.W.kitMeta T = true then PySem.W.subIn K (.ref D) (.type T) else none) = some b
  rw [if_pos m]
  exact h
end QW

set_option Elab.async false
set_option linter.all false
set_option maxRecDepth 100000
set_option maxHeartbeats 4000000
namespace QW
open PySem PySem.Spec PyProof.Rows L2
open Q (D R RA RB Ctl Cl S Mem)
/-! ### dicts -/
section
variable {κ τ : Type} [DecidableEq κ] [DecidableEq τ] {G : Cfg} {A : Reg} {H : Hp} {f : κ → τ}
def RepG (G : Cfg) (A : Reg) (H : Hp) (f : κ → τ) (ws : List (τ × V)) (kvs : List (κ × D)) : Prop := ws.length = kvs.length ∧ ∀ (i : Nat) w x, ws[i]? = some w → kvs[i]? = some x → w.1 = f x.1 ∧ Rep G A H w.2 x.2
theorem RepG.tail {w : τ × V} {x : κ × D} {ws : List (τ × V)} {kvs : List (κ × D)} (r : RepG G A H f (w :: ws) (x :: kvs)) : RepG G A H f ws kvs := ⟨by have := r.1; simpa using this, fun i a b c d => r.2 (i + 1) a b (by simpa using c) (by simpa using d)⟩
theorem RepG.head {w : τ × V} {x : κ × D} {ws : List (τ × V)} {kvs : List (κ × D)} (r : RepG G A H f (w :: ws) (x :: kvs)) : w.1 = f x.1 ∧ Rep G A H w.2 x.2 := r.2 0 w x rfl rfl
theorem RepG.cons {w : τ × V} {x : κ × D} {ws : List (τ × V)} {kvs : List (κ × D)} (h : w.1 = f x.1 ∧ Rep G A H w.2 x.2) (r : RepG G A H f ws kvs) : RepG G A H f (w :: ws) (x :: kvs) := by
  refine ⟨by simp [r.1], fun i a b c d => ?_⟩
  cases i with
  | zero => simp at c d; subst c d; exact h
  | succ i => exact r.2 i a b (by simpa using c) (by simpa using d)
/-- an answer of the machine's is the plain one -/
def RelD (G : Cfg) (A : Reg) (H : Hp) : Option V → Option D → Prop
  | some v, some d => Rep G A H v d
  | none, none => True
  | _, _ => False
theorem RepG.val (hf : ∀ a b, f a = f b → a = b) (k : κ) : ∀ {ws : List (τ × V)} {kvs : List (κ × D)}, RepG G A H f ws kvs → RelD G A H (valV ws (f k)) (Q.valK kvs k)
  | [], [], _ => trivial
  | [], _ :: _, r => by have := r.1; simp at this
  | _ :: _, [], r => by have := r.1; simp at this
  | w :: ws, x :: kvs, r => by
    obtain ⟨h1, h2⟩ := r.head
    by_cases e : x.1 = k
    · have e2 : w.1 = f k := by rw [h1, e]
      rw [valV_pos e2]
      have : Q.valK (x :: kvs) k = some x.2 := by simp [Q.valK, List.find?_cons, e]
      rw [this]
      exact h2
    · have e2 : ¬ w.1 = f k := fun z => e (hf _ _ (h1.symm.trans z))
      rw [valV_neg e2]
      have : Q.valK (x :: kvs) k = Q.valK kvs k := by simp [Q.valK, List.find?_cons, e]
      rw [this]
      exact RepG.val hf k r.tail
theorem RepG.any (hf : ∀ a b, f a = f b → a = b) (k : κ) : ∀ {ws : List (τ × V)} {kvs : List (κ × D)}, RepG G A H f ws kvs → (ws.any fun kv => decide (kv.1 = f k)) = kvs.any fun kv => decide (kv.1 = k)
  | [], [], _ => rfl
  | [], _ :: _, r => by have := r.1; simp at this
  | _ :: _, [], r => by have := r.1; simp at this
  | w :: ws, x :: kvs, r => by
    obtain ⟨h1, _⟩ := r.head
    rw [List.any_cons, List.any_cons, RepG.any hf k r.tail]
    congr 1
    rw [h1]
    by_cases e : x.1 = k
    · rw [e]; simp
    · have : ¬ f x.1 = f k := fun z => e (hf _ _ z)
      simp [e, this]
theorem RepG.repl (hf : ∀ a b, f a = f b → a = b) (k : κ) {v : V} {d : D} (rv : Rep G A H v d) : ∀ {ws : List (τ × V)} {kvs : List (κ × D)}, RepG G A H f ws kvs → RepG G A H f (ws.map fun kv => if kv.1 = f k then (kv.1, v) else kv) (kvs.map fun kv => if kv.1 = k then (kv.1, d) else kv)
  | [], [], r => r
  | [], _ :: _, r => by have := r.1; simp at this
  | _ :: _, [], r => by have := r.1; simp at this
  | w :: ws, x :: kvs, r => by
    obtain ⟨h1, h2⟩ := r.head
    rw [List.map_cons, List.map_cons]
    refine RepG.cons ?_ (RepG.repl hf k rv r.tail)
    by_cases e : x.1 = k
    · have e2 : w.1 = f k := by rw [h1, e]
      rw [if_pos e, if_pos e2]
      exact ⟨h1, rv⟩
    · have e2 : ¬ w.1 = f k := fun z => e (hf _ _ (h1.symm.trans z))
      rw [if_neg e, if_neg e2]
      exact ⟨h1, h2⟩
theorem RepG.snoc {w : τ × V} {x : κ × D} (h : w.1 = f x.1 ∧ Rep G A H w.2 x.2) : ∀ {ws : List (τ × V)} {kvs : List (κ × D)}, RepG G A H f ws kvs → RepG G A H f (ws ++ [w]) (kvs ++ [x])
  | [], [], r => RepG.cons h r
  | [], _ :: _, r => by have := r.1; simp at this
  | _ :: _, [], r => by have := r.1; simp at this
  | w :: ws, x :: kvs, r => RepG.cons r.head (RepG.snoc h r.tail)
theorem RepG.put (hf : ∀ a b, f a = f b → a = b) (k : κ) {v : V} {d : D} (rv : Rep G A H v d) {ws : List (τ × V)} {kvs : List (κ × D)} (r : RepG G A H f ws kvs) : RepG G A H f (L2.putK ws (f k) v) (Q.putK kvs k d) := by
  unfold L2.putK Q.putK
  rw [RepG.any hf k r]
  by_cases e : (kvs.any fun kv => decide (kv.1 = k)) = true
  · rw [if_pos e, if_pos e]
    exact RepG.repl hf k rv r
  · rw [if_neg e, if_neg e]
    exact RepG.snoc (f := f) (w := (f k, v)) (x := (k, d)) ⟨rfl, rv⟩ r
end
theorem inl_inj : ∀ a b : Int, (Sum.inl a : Key) = Sum.inl b → a = b := fun a b h => Sum.inl.inj h
theorem inls_inj : ∀ a b : List Int, a.map (Sum.inl : Int → Key) = b.map Sum.inl → a = b
  | [], [], _ => rfl
  | [], _ :: _, h => by simp at h
  | _ :: _, [], h => by simp at h
  | a :: r, b :: s, h => by
    rw [List.map_cons, List.map_cons] at h
    injection h with h1 h2
    rw [Sum.inl.inj h1, inls_inj r s h2]
theorem keys_ints (k : List Int) : (k.map (Sum.inl : Int → Key)).map kV = k.map V.int := by rw [List.map_map]; rfl
section
variable {G : Cfg} {A B : Reg} {H : Hp} {a : Addr} {y : V} {x d : D}
/-- a[y], as the machine finds it -/
theorem dget_of (K : Con G A H a x) (ry : Rep G B H y d) {o : Option D} (h : Q.dget x d = some o) : ∃ ov, DGet H a y ov ∧ RelD G A H ov o := by
  cases x with
  | dik kvs =>
    cases d with
    | int k =>
      cases ry
      obtain ⟨ws, e, r⟩ := K
      have h : some (Q.valK kvs k) = some o := h
      cases h
      exact ⟨_, DGet.k (k := Sum.inl k) e, RepG.val (f := Sum.inl) inl_inj k r⟩
    | _ => cases h
  | dtk kvs =>
    cases d with
    | tup ks =>
      obtain ⟨ws, e, r⟩ := K
      have h : (Q.intsD ks).map (Q.valK kvs) = some o := h
      cases q : Q.intsD ks with
      | none => rw [q] at h; cases h
      | some k =>
        rw [q] at h
        cases h
        obtain ⟨b, rfl⟩ := ry.tup_inv
        obtain ⟨vs, eb, _, rr⟩ := ry.tupSq
        have ev := rr.intsD (Q.of_ints q)
        refine ⟨_, DGet.t (k := k.map Sum.inl) e (by rw [eb, ev, keys_ints]), RepG.val (f := List.map Sum.inl) inls_inj k r⟩
    | _ => cases h
  | _ => cases d <;> cases h
theorem isD_of (K : Con G A H a x) (h : Q.isDic x = true) : IsD H a := by
  cases x with
  | dik kvs => obtain ⟨ws, e, _⟩ := K; exact .inl ⟨ws, .inl e⟩
  | dtk kvs => obtain ⟨ws, e, _⟩ := K; exact .inr ⟨ws, .inl e⟩
  | _ => cases h
/-- a[y] = v, as the machine does it -/
theorem dput_of (K : Con G A H a x) (ry : Rep G B H y d) {v : V} {dv x' : D} (rv : Rep G A H v dv) (h : Q.dput dv x d = some x') : ∃ u, DPut H a y v (upd H a u) ∧ ((∃ ws kvs, u = .dK ws ∧ x' = .dik kvs ∧ RepI G A H ws kvs) ∨ ∃ ws kvs, u = .dT ws ∧ x' = .dtk kvs ∧ RepT G A H ws kvs) := by
  cases x with
  | dik kvs =>
    cases d with
    | int k =>
      cases ry
      obtain ⟨ws, e, r⟩ := K
      have h : (if kvs.length < Q.most then some (D.dik (Q.putK kvs k dv)) else none) = some x' := h
      by_cases hl : kvs.length < Q.most
      · rw [if_pos hl] at h
        cases h
        exact ⟨_, DPut.k (k := Sum.inl k) e (most_lt (by rw [r.1]; exact hl)), .inl ⟨_, _, rfl, rfl, RepG.put (f := Sum.inl) inl_inj k rv r⟩⟩
      · rw [if_neg hl] at h; cases h
    | _ => cases h
  | dtk kvs =>
    cases d with
    | tup ks =>
      obtain ⟨ws, e, r⟩ := K
      have h : ((Q.intsD ks).bind fun k => if kvs.length < Q.most then some (D.dtk (Q.putK kvs k dv)) else none) = some x' := h
      cases q : Q.intsD ks with
      | none => rw [q] at h; cases h
      | some k =>
        rw [q] at h
        have h : (if kvs.length < Q.most then some (D.dtk (Q.putK kvs k dv)) else none) = some x' := h
        by_cases hl : kvs.length < Q.most
        · rw [if_pos hl] at h
          cases h
          obtain ⟨b, rfl⟩ := ry.tup_inv
          obtain ⟨vs, eb, _, rr⟩ := ry.tupSq
          have ev := rr.intsD (Q.of_ints q)
          exact ⟨_, DPut.t (k := k.map Sum.inl) e (by rw [eb, ev, keys_ints]) (most_lt (by rw [r.1]; exact hl)), .inr ⟨_, _, rfl, rfl, RepG.put (f := List.map Sum.inl) inls_inj k rv r⟩⟩
        · rw [if_neg hl] at h; cases h
    | _ => cases h
  | _ => cases d <;> cases h
/-- what stands at a behind it -/
theorem dput_con {u : HO} {x' : D} (h : (∃ ws kvs, u = .dK ws ∧ x' = .dik kvs ∧ RepI G A H ws kvs) ∨ ∃ ws kvs, u = .dT ws ∧ x' = .dtk kvs ∧ RepT G A H ws kvs) (s : Sub A H A (upd H a u)) : Con G A (upd H a u) a x' := by
  rcases h with ⟨ws, kvs, rfl, rfl, r⟩ | ⟨ws, kvs, rfl, rfl, r⟩
  · exact ⟨ws, upd_same, r.sub s⟩
  · exact ⟨ws, upd_same, r.sub s⟩
end
section
variable {fm : Fm} {pl : Pl} {H : Hp} {v : V} {d : D} {c : Cl} {G : Cfg}
/-- a dict is looked at -/
theorem dic_look {o : Option D} {y : D} (l : DOk G fm pl H v d c) (h : Q.dget d y = some o) : ∃ a, v = .ref a ∧ Con G (regC fm pl c) H a d := l.con (by cases d <;> first | rfl | (cases y <;> cases h))
end
section
variable {X : Cx} {W : WX} {G : Cfg} {a b e o z : Expr} {ea eb eo ez : Q.X} {pos : Pos}
theorem q_didx (hu : X.A.units + 1 < cLine) (ha : PE X a (tE G W ea)) (hb : PE X b (tE G W eb)) (hs : NoSl b := by exact fun _ _ => rfl) : PE X (.Subscript a b pos) (tE G W (Q.didx ea eb)) :=
  (pe_dget hu ha hb hs).conv fun σ H P ⟨fm, pl, env, E, acc⟩ => tE_in E (acc_bind acc) fun pl1 d c m1 v H1 E1 s1 o1 acc1 => tE_in E1 (acc_bind acc1) fun pl2 d2 c2 m2 v2 H2 E2 s2 o2 acc2 => by
    obtain ⟨x, c', l, acc3⟩ := acc_rd E2 (o1.at s2) acc2
    have acc3 : AccR G W fm pl2 (env.wm m2) σ H2 (Q.diS m2 c' (Q.dget x d2)) fun _ _ _ _ v H' => P v H' := acc3
    cases q : Q.dget x d2 with
    | none => rw [q] at acc3; exact acc3.elim
    | some od =>
      rw [q] at acc3
      cases od with
      | none => exact acc3.elim
      | some y =>
        obtain ⟨p, rfl, K⟩ := dic_look l q
        obtain ⟨ov, g, r⟩ := dget_of K o2.anyR q
        cases ov with
        | none => exact r.elim
        | some w => exact ⟨p, w, rfl, g, acc3 pl2 w H2 E2 (Ext.refl _) (part_ok r)⟩
theorem din_of {n : Bool} {σ : L2.St} {H : Hp} {P : VK} (h : tE G W (Q.din n ea eb) σ H P) : (tE G W ea) σ H fun y H1 => (tE G W eb) σ H1 fun x H2 => ∃ p ov, x = .ref p ∧ DGet H2 p y ov ∧ P (.bl (if n = true then !ov.isSome else ov.isSome)) H2 := by
  obtain ⟨fm, pl, env, E, acc⟩ := h
  refine tE_in E (acc_bind acc) fun pl1 d c m1 v H1 E1 s1 o1 acc1 => tE_in E1 (acc_bind acc1) fun pl2 d2 c2 m2 v2 H2 E2 s2 o2 acc2 => ?_
  obtain ⟨x, c', l, acc3⟩ := acc_rd E2 (o2.at (Ext.refl _)) acc2
  have acc3 : AccR G W fm pl2 (env.wm m2) σ H2 (Q.dnS m2 n (Q.dget x d)) fun _ _ _ _ v H' => P v H' := acc3
  cases q : Q.dget x d with
  | none => rw [q] at acc3; exact acc3.elim
  | some od =>
    rw [q] at acc3
    obtain ⟨p, rfl, K⟩ := dic_look l q
    obtain ⟨ov, g, r⟩ := dget_of K (o1.anyR.sub s2.tr) q
    have e : ov.isSome = od.isSome := by
      cases ov <;> cases od <;> first | rfl | exact r.elim
    refine ⟨p, ov, rfl, g, ?_⟩
    rw [e]
    exact acc3 pl2 _ H2 E2 (Ext.refl _) (Rep.bl _)
theorem q_din (hu : X.A.units + 1 < cLine) (ha : PE X a (tE G W ea)) (hb : PE X b (tE G W eb)) (hm : behindInMarks .In b = false := by first | exact nomark _ | rfl) : PE X (.Compare a [.In] [b] pos) (tE G W (Q.din false ea eb)) := (pe_cmp (pc_din hu ha hb) (h1 := hm)).conv fun _ _ _ h => din_of h
theorem q_dnin (hu : X.A.units + 1 < cLine) (ha : PE X a (tE G W ea)) (hb : PE X b (tE G W eb)) (hm : behindInMarks .NotIn b = false := by first | exact nomark _ | rfl) : PE X (.Compare a [.NotIn] [b] pos) (tE G W (Q.din true ea eb)) := (pe_cmp (pc_dnotin hu ha hb) (h1 := hm)).conv fun _ _ _ h => din_of h
theorem q_tdin (hu : X.A.units + 1 < cLine) (ha : PE X a (tE G W ea)) (hb : PE X b (tE G W eb)) (hm : behindInMarks .In b = false := by first | exact nomark _ | rfl) : PT X (.Compare a [.In] [b] pos) (tT G W (Q.tst (Q.din false ea eb))) := PT.conv (pt_cmp (pc_din hu ha hb) (h1 := hm)) fun _ _ _ h => din_of (tst_tE h)
theorem q_tdnin (hu : X.A.units + 1 < cLine) (ha : PE X a (tE G W ea)) (hb : PE X b (tE G W eb)) (hm : behindInMarks .NotIn b = false := by first | exact nomark _ | rfl) : PT X (.Compare a [.NotIn] [b] pos) (tT G W (Q.tst (Q.din true ea eb))) := PT.conv (pt_cmp (pc_dnotin hu ha hb) (h1 := hm)) fun _ _ _ h => din_of (tst_tE h)
theorem isDM_of {fm : Fm} {pl : Pl} {env : Q.Env} {ks : List (V × D)} {σ : L2.St} {H0 H : Hp} {m : Mem} {v : V} {d : D} {c : Cl} (E : EnvOk G fm pl (env.wm m) ks σ H) (o : FOk G fm pl m H0 H v d c) (h : Q.isDM m d = true) : ∃ p, v = .ref p ∧ IsD H p := by
  have box : ∀ {x : D}, Q.isDic x = true → QW.box x = true := fun {x} h => by cases x <;> first | rfl | cases h
  cases d with
  | ptr n =>
    have h : (Q.at_ m n).any Q.isDic = true := h
    cases q : Q.at_ m n with
    | none => rw [q] at h; cases h
    | some x =>
      rw [q] at h
      obtain ⟨p, rfl, _, _, K, _⟩ := cell_look E o.anyR (show Q.at_ (env.wm m).mem n = some x from q)
      exact ⟨p, rfl, isD_of K h⟩
  | dik kvs => obtain ⟨p, rfl, K⟩ := o.look.con rfl; exact ⟨p, rfl, isD_of K rfl⟩
  | dtk kvs => obtain ⟨p, rfl, K⟩ := o.look.con rfl; exact ⟨p, rfl, isD_of K rfl⟩
  | _ => cases h
theorem q_dgt1 {apos : Pos} (hu : X.A.units + 1 < cLine) (ho : PE X o (tE G W eo)) (he : PE X e (tE G W ea)) (m : M1 X o "get" apos e pos := by exact ⟨rfl, rfl, rfl, rfl⟩) : PE X (.Call (.Attribute o "get" apos) [e] [] pos) (tE G W (Q.dgt1 eo ea)) :=
  (pe_dget1 hu ho he m).conv fun σ H P ⟨fm, pl, env, E, acc⟩ => tE_in E (acc_bind acc) fun pl1 d c m1 v H1 E1 s1 o1 acc1 => by
    by_cases hd : Q.isDM m1 d = true
    · rw [if_pos hd] at acc1
      obtain ⟨p, rfl, isd⟩ := isDM_of E1 o1 hd
      refine ⟨p, rfl, isd, tE_in E1 (acc_bind acc1) fun pl2 d2 c2 m2 v2 H2 E2 s2 o2 acc2 => ?_⟩
      obtain ⟨x, c', l, acc3⟩ := acc_rd E2 (o1.at s2) acc2
      have acc3 : AccR G W fm pl2 (env.wm m2) σ H2 (Q.dgS m2 c' .non .cold (Q.dget x d2)) fun _ _ _ _ v H' => P v H' := acc3
      cases q : Q.dget x d2 with
      | none => rw [q] at acc3; exact acc3.elim
      | some od =>
        rw [q] at acc3
        obtain ⟨p', hp', K⟩ := dic_look l q
        cases hp'
        obtain ⟨ov, g, r⟩ := dget_of K o2.anyR q
        refine ⟨ov, g, ?_⟩
        cases ov <;> cases od <;> first | exact r.elim | skip
        · exact acc3 pl2 _ H2 E2 (Ext.refl _) Rep.non
        · exact acc3 pl2 _ H2 E2 (Ext.refl _) (part_ok r)
    · rw [if_neg hd] at acc1; exact acc1.elim
theorem q_dgt2 {apos : Pos} (hu : X.A.units + 1 < cLine) (ho : PE X o (tE G W eo)) (he : PE X e (tE G W ea)) (hz : PE X z (tE G W ez)) (m : M2 X o "get" apos e z pos := by exact ⟨rfl, rfl, rfl, rfl⟩) : PE X (.Call (.Attribute o "get" apos) [e, z] [] pos) (tE G W (Q.dgt2 eo ea ez)) :=
  (pe_dget2 hu ho he hz m).conv fun σ H P ⟨fm, pl, env, E, acc⟩ => tE_in E (acc_bind acc) fun pl1 d c m1 v H1 E1 s1 o1 acc1 => by
    by_cases hd : Q.isDM m1 d = true
    · rw [if_pos hd] at acc1
      obtain ⟨p, rfl, isd⟩ := isDM_of E1 o1 hd
      refine ⟨p, rfl, isd, tE_in E1 (acc_bind acc1) fun pl2 d2 c2 m2 v2 H2 E2 s2 o2 acc2 => tE_in E2 (acc_bind acc2) fun pl3 d3 c3 m3 v3 H3 E3 s3 o3 acc3 => ?_⟩
      by_cases hdd : Q.dirty c3 d3 = true
      · rw [if_pos hdd] at acc3; exact acc3.elim
      · rw [if_neg hdd] at acc3
        obtain ⟨x, c', l, acc4⟩ := acc_rd E3 (o1.at (s2.trans s3)) acc3
        have acc4 : AccR G W fm pl3 (env.wm m3) σ H3 (Q.dgS m3 c' d3 .cold (Q.dget x d2)) fun _ _ _ _ v H' => P v H' := acc4
        cases q : Q.dget x d2 with
        | none => rw [q] at acc4; exact acc4.elim
        | some od =>
          rw [q] at acc4
          obtain ⟨p', hp', K⟩ := dic_look l q
          cases hp'
          obtain ⟨ov, g, r⟩ := dget_of K (o2.anyR.sub s3.tr) q
          refine ⟨ov, g, ?_⟩
          cases ov <;> cases od <;> first | exact r.elim | skip
          · exact acc4 pl3 _ H3 E3 (Ext.refl _) (o3.clean (by simpa using hdd))
          · exact acc4 pl3 _ H3 E3 (Ext.refl _) (part_ok r)
    · rw [if_neg hd] at acc1; exact acc1.elim
theorem q_dnewI : PE X (.Dict [] [] pos) (tE G W Q.dnewI) := pe_dnewK.conv fun σ H P ⟨fm, pl, env, E, acc⟩ => fun p hp =>
  acc pl _ _ (E.later (same_new hp)) (ext_new hp) ⟨p, rfl, hp, E.newCold hp, ⟨[], upd_same, rfl, fun i w x h => by simp at h⟩, mem_new (env := env) (m := env.mem) E hp⟩
theorem q_dnewT : PE X (.Dict [] [] pos) (tE G W Q.dnewT) := pe_dnewT.conv fun σ H P ⟨fm, pl, env, E, acc⟩ => fun p hp =>
  acc pl _ _ (E.later (same_new hp)) (ext_new hp) ⟨p, rfl, hp, E.newCold hp, ⟨[], upd_same, rfl, fun i w x h => by simp at h⟩, mem_new (env := env) (m := env.mem) E hp⟩
/-- d[k] = a, d a dict of the frame's -/
theorem s_dput {i : Nat} {x : Str} {px tpos : Pos} (hu : X.A.units + 1 < cLine) (he : PE X e (tE G W ea)) (hb : PE X b (tE G W eb)) (hN : X.N[i]? = some x := by rfl) (hv : Vis X.env.scope x := by first | exact Or.inl rfl | exact Or.inr (Or.inl rfl) | exact Or.inr (Or.inr rfl))
    (hd : (x == ("__debug__" : Str)) = false := by decide) (hcd : (x == ("__classdict__" : Str)) = false := by decide)
    (hs : swapsWith e (some (.Subscript (.Name x px) b tpos)) pos.line X.env = pure false := by rfl) :
    PS X (.Assign [.Subscript (.Name x px) b tpos] e pos) (tS G W (Q.sdput i eb ea)) :=
  PS.conv (ps_dput hu (pv i hN hv hd hcd) hb he hs) fun T σ H ⟨fm, pl, env, ks, E, acc⟩ => by
    obtain ⟨d0, q, acc⟩ := hot_slot (k := Q.sdS i eb ea env) acc rfl (fun s hs => by cases s <;> first | rfl | exact absurd rfl (hs _))
    obtain ⟨p, hσ, hp, hn0, K⟩ := E.slot i _ q
    have hpc : p ∉ pl.cs := fun m => (E.cn p m).2.2 hp
    have acc : AccS G W fm ks T ((ea env).bindS env fun d c m => if Q.dirty c d = true then .bad else (eb (env.wm m)).bindS env fun y ck m => if Q.dirty ck y = true then .bad else Q.stV i (env.wm m) (Q.dput d d0 y)) := acc
    refine tE_st E (accS_bind E acc) fun pl1 d c m1 v H1 E1 s1 o1 acc1 => ⟨_, hσ, ?_⟩
    obtain ⟨hd, acc2⟩ := accS_clean acc1
    refine tE_st E1 (accS_bind E1 acc2) fun pl2 d2 c2 m2 v2 H2 E2 s2 o2 acc3 => ?_
    obtain ⟨hd2, acc4⟩ := accS_clean acc3
    cases z : Q.dput d d0 d2 with
    | none => rw [z] at acc4; exact acc4.elim
    | some d1 =>
      rw [z] at acc4
      have s02 := s1.trans s2
      have hp2 : p ∈ pl2.hs := by rw [s02.hs]; exact hp
      have K2 := K.sub s02.cold fun o e => s02.keep p o e hpc
      obtain ⟨u, g, r⟩ := dput_of K2 (o2.clean hd2) ((o1.clean hd).sub s2.cold) z
      exact ⟨p, _, rfl, g, acc4 pl2 _ _ (E2.writeSlot (s0 := .hot d0) q trivial hσ hp2 trivial ⟨p, hσ, hp2, hn0, dput_con r (upd_cold (.inl hp2))⟩)⟩
/-- o[k] = a, o a place at which a dict stands -/
theorem s_dputP {tpos : Pos} (hu : X.A.units + 1 < cLine) (ho : PE X o (tE G W eo)) (he : PE X e (tE G W ea)) (hb : PE X b (tE G W eb))
    (hs : swapsWith e (some (.Subscript o b tpos)) pos.line X.env = pure false := by rfl) :
    PS X (.Assign [.Subscript o b tpos] e pos) (tS G W (Q.sdputP eo eb ea)) :=
  PS.conv (ps_dput hu ho hb he hs) fun T σ H ⟨fm, pl, env, ks, E, acc⟩ => tE_st E (accS_bind E acc) fun pl1 d c m1 v H1 E1 s1 o1 acc1 => by
    obtain ⟨hd, acc2⟩ := accS_clean acc1
    refine tE_st E1 (accS_bind E1 acc2) fun pl2 d2 c2 m2 v2 H2 E2 s2 o2 acc3 => tE_st E2 (accS_bind E2 acc3) fun pl3 d3 c3 m3 v3 H3 E3 s3 o3 acc4 => ?_
    obtain ⟨hd3, acc5⟩ := accS_clean acc4
    obtain ⟨n, d0, d1, rfl, z1, z2, acc6⟩ := accS_pt acc5
    obtain ⟨p, rfl, hmu, hcs, K, _⟩ := cell_look E3 (o2.anyR.sub s3.tr) (show Q.at_ (env.wm m3).mem n = some _ from z1)
    obtain ⟨u, g, r⟩ := dput_of K (o3.clean hd3) ((o1.clean hd).sub (s2.trans s3).cold) z2
    exact ⟨p, _, rfl, g, acc6 pl3 _ _ (E3.writeCell (get_mem z1) hmu hcs (dput_con r (upd_cold (.inr hcs))))⟩
end
/-! ### raise C(a, ..), C with fields -/
/-- the promise of an __init__ of an error class: its fields in order -/
def spX (G : Cfg) (c n : Nat) : Sp := fun vs H P _ => ∃ (a : Addr) (ws : List V), vs = .ref a :: ws ∧ ws.length = n ∧ H a = some (exo a (G.cls c) none) ∧
  ∀ (H' : Hp) (dx : Addr) (fs : List (Str × V)), H dx = none → (∀ q, q ≠ a → q ≠ dx → H' q = H q) → H' a = some (exo a (G.cls c) (some dx)) → H' dx = some (exd dx fs) → (∀ (i : Nat) f w, (G.names c)[i]? = some f → ws[i]? = some w → fs.lookup f = some w) → P .non H'
theorem spX_len {G : Cfg} {c n : Nat} {vs : List V} {H : Hp} {P : VK} {E : XK} (h : spX G c n vs H P E) : vs.length = n + 1 := by
  obtain ⟨a, ws, rfl, h, _⟩ := h
  rw [List.length_cons, h]
section
variable {X : Cx} {W : WX} {G : Cfg} {e : Expr} {es : List Expr} {eas : Q.XA} {pos pos' p : Pos} {x : Str} {c k n : Nat} {fI : Addr} {fd : FuncData} {ps : List Str} {dvs : List V} {dl : List D} {us : List Value}
theorem s_raiseF (hc : X.calm = true) (tk : Takes X W) (T : OexC X.K (G.cls c)) (iC : PySem.W.findIn X.K (.ref (G.cls c)) "__init__" = some (some (.ref fI))) (tI : PySem.W.typeIn X.K (.ref fI) = some (.type "function"))
    (F1 : FnOk X.prog X.w X.K X.mg X.base (L2.CX X.prog X.w) k fI fd ps (spX G c (n + dl.length))) (hr : Room (k + 1) X.A) (hb : Binds X.K fd ps us) (hd : Vals dvs us) (hdl : dl.map conV = dvs.map some) (hx : Passes (L2.CX X.prog X.w) X (fun _ _ _ => False)) (hm : X.mg x = some (.ref (G.cls c))) (ha : PA X (e :: es) (tA G W eas)) (hn : 0 < n + dl.length := by decide) (hn9 : n + dl.length ≤ 900 := by decide)
    (hg : Gl X x := by rfl) (hdb : (x == ("__debug__" : Str)) = false := by decide) (he : starEach (e :: es) X.env = (false, eval e X.env) :: starEach es X.env := by rfl) (hpl : (backTo pos (starEach es X.env)).any (·.1) = false := by rfl) :
    PS X (.Raise (some (.Call (.Name x p) (e :: es) [] pos)) none pos') (tS G W (Q.sraiseF c n dl eas)) :=
  PS.conv (ps_raise hc tk (pmk_oex T iC tI F1 hr hb hd hx hg hm ha hdb he hpl)) fun T' σ H ⟨fm, pl, env, ks, E, acc⟩ => tA_st E (accS_bindA E acc) fun pl1 ds t m1 vs H1 E1 s1 r1 acc1 => by
    obtain ⟨ht, acc2⟩ := accS_clean acc1
    subst ht
    by_cases hl : ds.length = n
    · rw [if_pos hl] at acc2
      have hdd : dl.length = dvs.length := by have := congrArg List.length hdl; simpa using this
      refine ⟨by rw [r1.1, hl]; omega, fun a hna => ⟨a, vs ++ dvs, rfl, by rw [List.length_append, r1.1, hl, hdd], upd_same, fun H' dx fs hdx hq ea ed hfs => ⟨rfl, dx, fs, ea, ed, ?_, ?_⟩⟩⟩
      · have hda : dx ≠ a := fun z => by rw [z, upd_same] at hdx; cases hdx
        rw [upd_ne hda] at hdx; exact hdx
      · have hda : dx ≠ a := fun z => by rw [z, upd_same] at hdx; cases hdx
        have hdx1 : H1 dx = none := by rw [upd_ne hda] at hdx; exact hdx
        have sm : Same H1 (upd (del H' a) dx (.xd fs)) := fun q o z => by
          have h1 : q ≠ dx := fun y => by rw [y, hdx1] at z; cases z
          have h2 : q ≠ a := fun y => by rw [y, hna] at z; cases z
          rw [upd_ne h1, del_ne h2, hq q h2 h1, upd_ne h2]
          exact z
        have E2 := E1.later sm
        refine acc2 _ _ pl1 _ _ E2 ⟨rfl, .inr ⟨?_, dx, fs, rfl, E1.newNew hdx1, upd_same, fun i f d q r => ?_⟩⟩
        · intro z
          have := congrArg List.length z
          rw [List.length_append, hl, List.length_nil] at this
          omega
        · have rr := (Reps.append r1 (reps_conV (G := G) hdl (Cold fm pl1) H1)).sub (ext_same (pl := pl1) sm).cold
          obtain ⟨w, h1, h2⟩ := rr.get r
          exact ⟨w, hfs i f w q h1, h2⟩
    · rw [if_neg hl] at acc2; exact acc2.elim
end
/-! ### calls over a memory of their own -/
mutual
theorem noptr_mu {G : Cfg} {A : Reg} {H : Hp} {mu' : List Addr} {v : V} : ∀ {d : D}, Rep G A H v d → d.noptr = true → Rep G ⟨A.p, mu'⟩ H v d
  | .non, r, _ => by cases r; exact .non
  | .bl b, r, _ => by cases r; exact .bl b
  | .int i, r, _ => by cases r; exact .int i
  | .str x, r, _ => by cases r; exact .str x
  | .tup xs, r, h => by
    cases r with
    | tup ha e hl hr => exact .tup ha e hl fun i v d a b => noptrs_mu hr (by simpa [Q.D.noptr] using h) i v d a b
  | .lst xs, r, h => by
    cases r with
    | lst ha e hl hr => exact .lst ha e hl fun i v d a b => noptrs_mu hr (by simpa [Q.D.noptr] using h) i v d a b
  | .frz ns, r, _ => by cases r with | frz h => exact .frz h
  | .obj c xs, r, h => by
    cases r with
    | obj ha e hl hr => exact .obj ha e hl fun i v d a b => noptrs_mu hr (by simpa [Q.D.noptr] using h) i v d a b
  | .dik kvs, r, h => by
    cases r with
    | dik ha e hl hk hr => exact .dik ha e hl hk fun i w x a b => noptrI_mu hr (by simpa [Q.D.noptr] using h) i w x a b
  | .dtk kvs, r, h => by
    cases r with
    | dtk ha e hl hk hr => exact .dtk ha e hl hk fun i w x a b => noptrT_mu hr (by simpa [Q.D.noptr] using h) i w x a b
  | .ptr n, r, h => by simp [Q.D.noptr] at h
theorem noptrs_mu {G : Cfg} {A : Reg} {H : Hp} {mu' : List Addr} : ∀ {ds : List D} {vs : List V}, (∀ (i : Nat) v d, vs[i]? = some v → ds[i]? = some d → Rep G A H v d) → Q.D.noptrs ds = true → ∀ (i : Nat) v d, vs[i]? = some v → ds[i]? = some d → Rep G ⟨A.p, mu'⟩ H v d
  | [], vs, _, _, i, v, d, _, b => by simp at b
  | x :: xs, [], _, _, i, v, d, a, _ => by simp at a
  | x :: xs, w :: vs, h, n, i, v, d, a, b => by
    rw [Q.D.noptrs, Bool.and_eq_true] at n
    cases i with
    | zero => simp at a b; subst a b; exact noptr_mu (h 0 _ _ rfl rfl) n.1
    | succ i => exact noptrs_mu (fun j v d a b => h (j + 1) v d (by simpa using a) (by simpa using b)) n.2 i v d (by simpa using a) (by simpa using b)
theorem noptrI_mu {G : Cfg} {A : Reg} {H : Hp} {mu' : List Addr} : ∀ {kvs : List (Int × D)} {ws : List (Key × V)}, (∀ (i : Nat) w x, ws[i]? = some w → kvs[i]? = some x → Rep G A H w.2 x.2) → Q.D.noptrI kvs = true → ∀ (i : Nat) w x, ws[i]? = some w → kvs[i]? = some x → Rep G ⟨A.p, mu'⟩ H w.2 x.2
  | [], ws, _, _, i, v, d, _, b => by simp at b
  | x :: xs, [], _, _, i, v, d, a, _ => by simp at a
  | (q, x) :: xs, w :: vs, h, n, i, v, d, a, b => by
    rw [Q.D.noptrI, Bool.and_eq_true] at n
    cases i with
    | zero => simp at a b; subst a b; exact noptr_mu (h 0 _ _ rfl rfl) n.1
    | succ i => exact noptrI_mu (fun j v d a b => h (j + 1) v d (by simpa using a) (by simpa using b)) n.2 i v d (by simpa using a) (by simpa using b)
theorem noptrT_mu {G : Cfg} {A : Reg} {H : Hp} {mu' : List Addr} : ∀ {kvs : List (List Int × D)} {ws : List (List Key × V)}, (∀ (i : Nat) w x, ws[i]? = some w → kvs[i]? = some x → Rep G A H w.2 x.2) → Q.D.noptrT kvs = true → ∀ (i : Nat) w x, ws[i]? = some w → kvs[i]? = some x → Rep G ⟨A.p, mu'⟩ H w.2 x.2
  | [], ws, _, _, i, v, d, _, b => by simp at b
  | x :: xs, [], _, _, i, v, d, a, _ => by simp at a
  | (q, x) :: xs, w :: vs, h, n, i, v, d, a, b => by
    rw [Q.D.noptrT, Bool.and_eq_true] at n
    cases i with
    | zero => simp at a b; subst a b; exact noptr_mu (h 0 _ _ rfl rfl) n.1
    | succ i => exact noptrT_mu (fun j v d a b => h (j + 1) v d (by simpa using a) (by simpa using b)) n.2 i v d (by simpa using a) (by simpa using b)
end
end QW

set_option Elab.async false
set_option linter.all false
set_option maxRecDepth 100000
set_option maxHeartbeats 4000000
namespace QW
open PySem PySem.Spec PyProof.Rows L2
open Q (D R RA RB Ctl Cl S Mem)
/-- C.m finds the plain value v -/
structure ClsAt (K : PySem.W.Frag) (C : Addr) (m : Str) (v : Value) : Prop where
  rd : PySem.W.readsIn K C (.type "type") = true
  ga : PySem.W.specialIn K (.ref C) "__getattribute__" = some (some (.builtin "type.__getattribute__"))
  at_ : PySem.W.findCls K (.ref C) (.type "type") m = some (.val v)
section
variable {X : Cx} {CX : CXT} {k : Nat} {C f : Addr} {fd : FuncData} {ps : List Str} {sp : Sp} {E : L2.St → XK} {x m : Str} {e : Expr} {es : List Expr} {ta : TA} {p1 p2 pos : Pos} {pl : Sem Bool}
/-- C.m(e, ..), C an own class, m a def of it -/
theorem pe_clsCall (T : ClsAt X.K C m (.ref f)) (F : FnOk X.prog X.w X.K X.mg X.base CX k f fd ps sp) (hr : Room k X.A) (hg : Gl X x) (hm : X.mg x = some (.ref C)) (hk : PySem.W.keepIn X.K (.ref f) = true) (hb : Binds X.K fd ps []) (hx : ∀ σ, PassesAt CX X σ (E σ)) (ha : PA X (e :: es) ta)
    (hc : eval (.Call (.Attribute (.Name x p1) m p2) (e :: es) [] pos) X.env = (do let ov ← eval (.Name x p1) X.env; standAt p2.atName; let (f, first) ← holding [ov] (getMethod ov m pl); callWith pos f first (backTo pos (starEach (e :: es) X.env)) (backToKw pos (keywordEach [] X.env))) := by rfl)
    (hdb : (x == ("__debug__" : Str)) = false := by decide) (he : starEach (e :: es) X.env = (false, eval e X.env) :: starEach es X.env := by rfl) (hpl : (backTo pos (starEach es X.env)).any (·.1) = false := by rfl) :
    PE X (.Call (.Attribute (.Name x p1) m p2) (e :: es) [] pos) (tCallS sp E ta) := by
  refine ⟨fun pins s σ H Q I h => ?_⟩
  refine PySem.W.methodCall_KW (ld_glob I hg hm ?_ hdb) hc
  refine PySem.W.method_cls I.kIn T.ga (PySem.W.cls_value I.kIn T.rd T.at_ rfl ?_)
  show wpAny _ _ (callWith pos (Value.ref f) [] (backTo pos (starEach (e :: es) X.env)) []) _ _ _
  refine PySem.W.callWith_K (h₀ := X.base) I.ok.mod.kin hk (thn (ha.run pos pins _ σ H _ (I.tok _) h) fun us s1 ⟨vs, H1, I1, r, q⟩ => ⟨I1.kIn, ?_⟩) he hpl
  exact run_fnS F hr hb (hx σ) I1 r q
/-- C.__init__(self, ..), C an own class of errors without own __init__ -/
theorem pe_clsVeinit (T : ClsAt X.K C "__init__" (.builtin "ValueError.__init__")) (hm : X.mg x = some (.ref C)) (ha : PA X (e :: es) ta) (hg : Gl X x := by rfl)
    (hc : eval (.Call (.Attribute (.Name x p1) "__init__" p2) (e :: es) [] pos) X.env = (do let ov ← eval (.Name x p1) X.env; standAt p2.atName; let (f, first) ← holding [ov] (getMethod ov "__init__" pl); callWith pos f first (backTo pos (starEach (e :: es) X.env)) (backToKw pos (keywordEach [] X.env))) := by rfl)
    (hdb : (x == ("__debug__" : Str)) = false := by decide) (he : starEach (e :: es) X.env = (false, eval e X.env) :: starEach es X.env := by rfl) (hpl : (backTo pos (starEach es X.env)).any (·.1) = false := by rfl) :
    PE X (.Call (.Attribute (.Name x p1) "__init__" p2) (e :: es) [] pos) (tVeI X.K ta) := by
  refine ⟨fun pins s σ H Q I h => ?_⟩
  refine PySem.W.methodCall_KW (ld_glob I hg hm ?_ hdb) hc
  refine PySem.W.method_cls I.kIn T.ga (PySem.W.cls_value I.kIn T.rd T.at_ (by decide +kernel) ?_)
  show wpAny _ _ (callWith pos (Value.builtin "ValueError.__init__") [] (backTo pos (starEach (e :: es) X.env)) []) _ _ _
  refine PyProof.Rows.callWith_method1 (thn (ha.run pos pins _ σ H _ (I.tok _) h) fun us s1 ⟨vs, H1, I1, r1, a, C, ws, ev, hl, T, ea, q⟩ => ?_) he hpl
  subst ev
  match r1 with
  | @Paired.cons _ _ _ _ u0 _ ur ra rw' =>
    have e0 : u0 = Value.ref a := ra
    subst e0
    exact oinit_ok T I1 ea (by rw [← Paired.length rw', sizeLine_eq]; omega) fun s' J => ⟨.non, H1, J, rfl, q⟩
end
/-! ### the __init__ of an error class with fields -/
section
variable {P : Program} {w : PySem.World} {G : Cfg} {mg : Str → Option Value} {base : Heap} {c : Nat} {f1 f2 z : Str}
abbrev vT (K : PySem.W.Frag) (z : Str) : TS := tDrop (tVeI K (tCons (tVar 0) (tCons (tC (.str z)) tNil)))
theorem initX1 {x qual : Str} {st : Stmt} {f : Addr} {fd : FuncData} {N ps : List Str} {k : Nat} (F : FunQ G.K x qual st f fd) (S : FnScope N ps (defScope st)) (hp : ps.length = 2)
    (T : OexC G.K (G.cls c)) (n1 : PySem.W.findIn G.K (.ref (G.cls c)) f1 = some none) (hn : G.names c = [f1])
    (hb : ∀ (cdv : Value) (A : Around) (outer : List Env) (s : Shared) (H : Hp) (E : XK), Room k (A.deeper (envOfC qual (defScope st) s.heap.objs.size f cdv)) →
      PSs (cxQ P w G.K mg base N qual (defScope st) f cdv A outer s H E) (defBody st) (tSeq (vT G.K z) (tOst G.K f1 (tVar 0) (tVar 1)))) :
    FnOk P w G.K mg base (L2.CX P w) (k + 1) f fd ps (spX G c 1) :=
  F.okX S (fun vs H Q E h => by rw [spX_len h, hp]) fun cdv A outer s H vs P' E hr h => by
    refine ⟨_, hb cdv A outer s H E hr, ?_⟩
    obtain ⟨a, ws, rfl, hl, ha, q⟩ := h
    match ws, hl with
    | [w1], _ =>
      have g0 : (start N [.ref a, w1])[0]? = some (some (.ref a)) := rfl
      have g1 : (start N [.ref a, w1])[1]? = some (some w1) := rfl
      refine ⟨.ref a, g0, a, G.cls c, [.str z], rfl, by simp, T, ha, ?_⟩
      refine ⟨w1, g1, .ref a, g0, a, G.cls c, rfl, T, n1, .inl ⟨ha, fun dx hd hda => ?_⟩⟩
      refine q _ dx [(f1, w1)] hd (fun b h1 h2 => by rw [upd_ne h1, upd_ne h2]) upd_same (by rw [upd_ne hda, upd_same]) fun i f u h1 h2 => ?_
      rw [hn] at h1
      match i, h1, h2 with
      | 0, h1, h2 => cases h1; cases h2; simp [List.lookup]
theorem initX2 {x qual : Str} {st : Stmt} {f : Addr} {fd : FuncData} {N ps : List Str} {k : Nat} (F : FunQ G.K x qual st f fd) (S : FnScope N ps (defScope st)) (hp : ps.length = 3)
    (T : OexC G.K (G.cls c)) (n1 : PySem.W.findIn G.K (.ref (G.cls c)) f1 = some none) (n2 : PySem.W.findIn G.K (.ref (G.cls c)) f2 = some none) (hn : G.names c = [f1, f2]) (ne : f1 ≠ f2)
    (hb : ∀ (cdv : Value) (A : Around) (outer : List Env) (s : Shared) (H : Hp) (E : XK), Room k (A.deeper (envOfC qual (defScope st) s.heap.objs.size f cdv)) →
      PSs (cxQ P w G.K mg base N qual (defScope st) f cdv A outer s H E) (defBody st) (tSeq (vT G.K z) (tSeq (tOst G.K f1 (tVar 0) (tVar 1)) (tOst G.K f2 (tVar 0) (tVar 2))))) :
    FnOk P w G.K mg base (L2.CX P w) (k + 1) f fd ps (spX G c 2) :=
  F.okX S (fun vs H Q E h => by rw [spX_len h, hp]) fun cdv A outer s H vs P' E hr h => by
    refine ⟨_, hb cdv A outer s H E hr, ?_⟩
    obtain ⟨a, ws, rfl, hl, ha, q⟩ := h
    match ws, hl with
    | [w1, w2], _ =>
      have g0 : (start N [.ref a, w1, w2])[0]? = some (some (.ref a)) := rfl
      have g1 : (start N [.ref a, w1, w2])[1]? = some (some w1) := rfl
      have g2 : (start N [.ref a, w1, w2])[2]? = some (some w2) := rfl
      refine ⟨.ref a, g0, a, G.cls c, [.str z], rfl, by simp, T, ha, ?_⟩
      refine ⟨w1, g1, .ref a, g0, a, G.cls c, rfl, T, n1, .inl ⟨ha, fun dx hd hda => ?_⟩⟩
      refine ⟨w2, g2, .ref a, g0, a, G.cls c, rfl, T, n2, .inr ⟨dx, [(f1, w1)], upd_same, by rw [upd_ne hda, upd_same], by simp, ?_⟩⟩
      refine q _ dx [(f2, w2), (f1, w1)] hd (fun b h1 h2 => by rw [upd_ne h2, upd_ne h1, upd_ne h2]) (by rw [upd_ne (Ne.symm hda), upd_same]) upd_same fun i f u h1 h2 => ?_
      rw [hn] at h1
      match i, h1, h2 with
      | 0, h1, h2 => cases h1; cases h2; rw [lookup_put, if_neg ne, lookup_put, if_pos rfl]
      | 1, h1, h2 => cases h1; cases h2; rw [lookup_put, if_pos rfl]
end
end QW

set_option Elab.async false
set_option linter.all false
set_option maxRecDepth 100000
set_option maxHeartbeats 4000000
namespace QW
open PySem PySem.Spec PyProof.Rows L2
open Q (D R RA RB Ctl Cl S Mem)
/-! ### list(range(a, b, c)) -/
section
theorem rs_up {a b c : Int} (h : 0 < c) : Builtin.Range.rangeSize a b c = (Q.rng3N a b c : Nat) := by
  unfold Builtin.Range.rangeSize Q.rng3N
  rw [if_pos h]
  by_cases q : a < b
  · rw [if_pos q, if_pos q]
    have : 0 ≤ (b - a - 1) / c := Int.ediv_nonneg (by omega) (by omega)
    omega
  · rw [if_neg q, if_neg q]; rfl
theorem rn_le {a b c : Int} (h : 0 < c) (hb : b - a ≤ 1000000) : Q.rng3N a b c ≤ 1000000 := by
  unfold Q.rng3N
  by_cases q : a < b
  · rw [if_pos q]
    have h1 : (b - a - 1) / c ≤ b - a - 1 := Int.ediv_le_self _ (by omega)
    omega
  · rw [if_neg q]; omega
theorem rn_mul {a b c : Int} (h : 0 < c) : a ≤ b → c * ((b - a - 1) / c) ≤ b - a - 1 := fun _ => Int.mul_ediv_self_le (by omega)
theorem small_up {a b c : Int} (hc : 0 < c) (hc2 : c < 1000000) (ha : -4000000000 < a) (ha' : a < 4000000000) (hb : -4000000000 < b) (hb' : b < 4000000000) : Builtin.Range.small a b c = true := by
  unfold Builtin.Range.small
  rw [rs_up hc]
  have h1 : Q.rng3N a b c ≤ 8000000000 := by
    unfold Q.rng3N
    by_cases q : a < b
    · rw [if_pos q]
      have h1 : (b - a - 1) / c ≤ b - a - 1 := Int.ediv_le_self _ (by omega)
      omega
    · rw [if_neg q]; omega
  simp only [Builtin.Range.rangeFitsLong, Bool.and_eq_true, Bool.or_eq_true, decide_eq_true_eq, beq_iff_eq, show c > 0 from hc, if_true]
  omega
theorem rng3_len (a b c : Int) : (Q.rng3 a b c).length = Q.rng3N a b c := by unfold Q.rng3; rw [List.length_map, List.length_range]
variable {X : Cx} {G : Cfg} {W : WX} {a b c : Expr} {ea eb ec : Q.X} {p p1 p2 pos : Pos}
theorem q_listRng3 (hc : X.calm = true) (hml : X.mg "list" = none) (hmr : X.mg "range" = none) (ha : PE X a (tE G W ea)) (hb : PE X b (tE G W eb)) (hcc : PE X c (tE G W ec)) (hg : Gl X "list" := by rfl) (hg2 : Gl X "range" := by rfl)
    (na : starEach [.Call (.Name "range" p1) [a, b, c] [] p2] X.env = (false, eval (.Call (.Name "range" p1) [a, b, c] [] p2) X.env) :: starEach [] X.env := by rfl)
    (n1 : starEach [a, b, c] X.env = (false, eval a X.env) :: starEach [b, c] X.env := by rfl) (n2 : starEach [b, c] X.env = (false, eval b X.env) :: starEach [c] X.env := by rfl) (n3 : starEach [c] X.env = (false, eval c X.env) :: starEach [] X.env := by rfl) (n4 : (backTo p2 (starEach [b, c] X.env)).any (·.1) = false := by rfl) :
    PE X (.Call (.Name "list" p) [.Call (.Name "range" p1) [a, b, c] [] p2] [] pos) (tE G W (Q.listRng3 ea eb ec)) := by
  have pa : PA X [a, b, c] (tCons (tE G W ea) (tCons (tE G W eb) (tCons (tE G W ec) tNil))) := pa_cons ha (pa_cons hb (pa_cons hcc pa_nil n3) n2) n1
  refine ⟨fun pins s σ H P I ⟨fm, pl, env, E, acc⟩ => ?_⟩
  have h : (tCons (tE G W ea) (tCons (tE G W eb) (tCons (tE G W ec) tNil))) σ H fun vs H3 => ∃ i j k : Int, vs = [.int i, .int j, .int k] ∧ (-4000000000 < i ∧ i < 4000000000) ∧ (-4000000000 < j ∧ j < 4000000000) ∧ (0 < k ∧ k < 1000000) ∧ j - i ≤ 1000000 ∧
      ∀ q, H3 q = none → P (.ref q) (upd H3 q (.lst (((Q.rng3 i j k).map D.int).map fun d => match d with
        | .int z => V.int z
        | _ => V.non))) := by
    refine tE_in E (acc_bind acc) fun pl1 d c1 m1 v H1 E1 s1 o1 acc1 => tE_in E1 (acc_bind acc1) fun pl2 d2 c2 m2 v2 H2 E2 s2 o2 acc2 => tE_in E2 (acc_bind acc2) fun pl3 d3 c3 m3 v3 H3 E3 s3 o3 acc3 => ?_
    cases d with
    | int i =>
      cases d2 with
      | int j =>
        cases d3 with
        | int k =>
          cases (o1.anyR); cases (o2.anyR); cases (o3.anyR)
          have acc3 : AccR G W fm pl3 (env.wm m3) σ H3 (if (-4000000000 < i ∧ i < 4000000000) ∧ (-4000000000 < j ∧ j < 4000000000) ∧ (0 < k ∧ k < 1000000) ∧ j - i ≤ 1000000 then .ok (.lst ((Q.rng3 i j k).map D.int)) .fresh m3 else .bad) fun _ _ _ _ v H' => P v H' := acc3
          by_cases q : (-4000000000 < i ∧ i < 4000000000) ∧ (-4000000000 < j ∧ j < 4000000000) ∧ (0 < k ∧ k < 1000000) ∧ j - i ≤ 1000000
          · rw [if_pos q] at acc3
            refine ⟨i, j, k, rfl, q.1, q.2.1, q.2.2.1, q.2.2.2, fun t ht => ?_⟩
            refine acc3 _ _ _ (E3.later (same_new ht)) (ext_new ht) (fresh_lst E3 ?_ ht)
            rw [List.map_map]
            exact reps_ints _
          · rw [if_neg q] at acc3; exact acc3.elim
        | _ => exact acc3.elim
      | _ => cases d3 <;> exact acc3.elim
    | _ => cases d2 <;> cases d3 <;> exact acc3.elim
  refine Call_ (ld_blt I hg hml boot_list (PyProof.Rows.callWith_type1 (args_cons ?_ na) na))
  refine Call_ (ld_blt I hg2 hmr boot_range (PyProof.Rows.callWith_type1 (thn (pa.run p2 pins s σ H _ I h) fun us s1 ⟨vs, H1, I1, r1, i, j, k, e, q1, q2, q3, q4, q⟩ => ?_) n1 n4))
  subst e
  cases r1 with
  | cons r rr =>
    cases rr with
    | cons r' rr =>
      cases rr with
      | cons r'' rr =>
        cases rr
        obtain ⟨t, rfl⟩ := r
        obtain ⟨t', rfl⟩ := r'
        obtain ⟨t'', rfl⟩ := r''
        refine call_range_3 (by omega) ?_ (.inl (PyProof.noPylong_small (by omega)))
        have I2 : Inv X pins σ H1 { s1 with heap := s1.heap.push { cls := .type "range", data := .fields #[.int i t, .int j t', .int k t''] } } := I1.kept (t' := s1.toks) fun b o e => Heap.get?_push_of_some _ e
        refine args_nil ?_
        refine call_list_range (n := Q.rng3N i j k) (I2.ok.hd hc) (IsRange.new ..) (small_up q3.1 q3.2 q1.1 q1.2 q2.1 q2.2) (rs_up q3.1) (by have := rn_le (a := i) (b := j) q3.1 q4; omega) fun h' tk acc' c' hk e' hi => ?_
        refine ⟨.ref _, _, I2.laid hk (Nat.le_refl _) (show ObjOk X.prog X.w _ _ _ (.lst _) from ⟨?_, acc'.toList, c', ?_, ?_⟩), rfl, q _ (I2.hok.fresh (Nat.le_refl _))⟩
        · rw [List.length_map, List.length_map, rng3_len, sizeLine_eq]; have := rn_le (a := i) (b := j) q3.1 q4; omega
        · have e : acc'.toList.length = Q.rng3N i j k := by rw [Array.length_toList]; exact hi.1
          unfold Q.rng3
          rw [List.map_map, List.map_map, ← e]
          refine vals_of_get acc'.toList _ fun n u hn => ?_
          obtain ⟨t, rfl⟩ := hi.2 n u (by rw [← hn, Array.getElem?_toList])
          exact ⟨t, rfl⟩
        · rw [Array.toArray_toList]; exact e'
end
/-- nothing is let out -/
theorem passes_no {X : Cx} {P : Program} {w : PySem.World} : Passes (L2.CX P w) X (fun _ _ _ => False) := by
  intro pins σ H s e s' I h
  obtain ⟨_, _, _, _, _, _, _, _, _, _, _, _, h⟩ := h
  exact h.elim
end QW

set_option Elab.async false
set_option linter.all false
set_option maxRecDepth 100000
set_option maxHeartbeats 4000000
namespace QW
open PySem PySem.Spec PyProof.Rows L2
open Q (D R RA RB Ctl Cl S Mem Pat)
/-! ### places that are named -/
section
variable {G : Cfg} {A : Reg} {H : Hp} {nn : Nat} {mu' : List Addr}
mutual
theorem low_mu (hm : ∀ k, k < nn → A.mu[k]? = mu'[k]?) {v : V} : ∀ {d : D}, Rep G A H v d → d.low nn = true → Rep G ⟨A.p, mu'⟩ H v d
  | .non, r, _ => by cases r; exact .non
  | .bl b, r, _ => by cases r; exact .bl b
  | .int i, r, _ => by cases r; exact .int i
  | .str x, r, _ => by cases r; exact .str x
  | .tup xs, r, h => by
    cases r with
    | tup ha e hl hr => exact .tup ha e hl fun i v d a b => lows_mu hm hr (by simpa [Q.D.low] using h) i v d a b
  | .lst xs, r, h => by
    cases r with
    | lst ha e hl hr => exact .lst ha e hl fun i v d a b => lows_mu hm hr (by simpa [Q.D.low] using h) i v d a b
  | .frz ns, r, _ => by cases r with | frz h => exact .frz h
  | .obj c xs, r, h => by
    cases r with
    | obj ha e hl hr => exact .obj ha e hl fun i v d a b => lows_mu hm hr (by simpa [Q.D.low] using h) i v d a b
  | .dik kvs, r, h => by
    cases r with
    | dik ha e hl hk hr => exact .dik ha e hl hk fun i w x a b => lowI_mu hm hr (by simpa [Q.D.low] using h) i w x a b
  | .dtk kvs, r, h => by
    cases r with
    | dtk ha e hl hk hr => exact .dtk ha e hl hk fun i w x a b => lowT_mu hm hr (by simpa [Q.D.low] using h) i w x a b
  | .ptr n, r, h => by
    cases r with
    | ptr e => exact .ptr ((hm n (by simpa [Q.D.low] using h)).symm.trans e)
theorem lows_mu (hm : ∀ k, k < nn → A.mu[k]? = mu'[k]?) : ∀ {ds : List D} {vs : List V}, (∀ (i : Nat) v d, vs[i]? = some v → ds[i]? = some d → Rep G A H v d) → Q.D.lows nn ds = true → ∀ (i : Nat) v d, vs[i]? = some v → ds[i]? = some d → Rep G ⟨A.p, mu'⟩ H v d
  | [], vs, _, _, i, v, d, _, b => by simp at b
  | x :: xs, [], _, _, i, v, d, a, _ => by simp at a
  | x :: xs, w :: vs, h, n, i, v, d, a, b => by
    rw [Q.D.lows, Bool.and_eq_true] at n
    cases i with
    | zero => simp at a b; subst a b; exact low_mu hm (h 0 _ _ rfl rfl) n.1
    | succ i => exact lows_mu hm (fun j v d a b => h (j + 1) v d (by simpa using a) (by simpa using b)) n.2 i v d (by simpa using a) (by simpa using b)
theorem lowI_mu (hm : ∀ k, k < nn → A.mu[k]? = mu'[k]?) : ∀ {kvs : List (Int × D)} {ws : List (Key × V)}, (∀ (i : Nat) w x, ws[i]? = some w → kvs[i]? = some x → Rep G A H w.2 x.2) → Q.D.lowI nn kvs = true → ∀ (i : Nat) w x, ws[i]? = some w → kvs[i]? = some x → Rep G ⟨A.p, mu'⟩ H w.2 x.2
  | [], ws, _, _, i, v, d, _, b => by simp at b
  | x :: xs, [], _, _, i, v, d, a, _ => by simp at a
  | (q, x) :: xs, w :: vs, h, n, i, v, d, a, b => by
    rw [Q.D.lowI, Bool.and_eq_true] at n
    cases i with
    | zero => simp at a b; subst a b; exact low_mu hm (h 0 _ _ rfl rfl) n.1
    | succ i => exact lowI_mu hm (fun j v d a b => h (j + 1) v d (by simpa using a) (by simpa using b)) n.2 i v d (by simpa using a) (by simpa using b)
theorem lowT_mu (hm : ∀ k, k < nn → A.mu[k]? = mu'[k]?) : ∀ {kvs : List (List Int × D)} {ws : List (List Key × V)}, (∀ (i : Nat) w x, ws[i]? = some w → kvs[i]? = some x → Rep G A H w.2 x.2) → Q.D.lowT nn kvs = true → ∀ (i : Nat) w x, ws[i]? = some w → kvs[i]? = some x → Rep G ⟨A.p, mu'⟩ H w.2 x.2
  | [], ws, _, _, i, v, d, _, b => by simp at b
  | x :: xs, [], _, _, i, v, d, a, _ => by simp at a
  | (q, x) :: xs, w :: vs, h, n, i, v, d, a, b => by
    rw [Q.D.lowT, Bool.and_eq_true] at n
    cases i with
    | zero => simp at a b; subst a b; exact low_mu hm (h 0 _ _ rfl rfl) n.1
    | succ i => exact lowT_mu hm (fun j v d a b => h (j + 1) v d (by simpa using a) (by simpa using b)) n.2 i v d (by simpa using a) (by simpa using b)
end
mutual
theorem low_of {v : V} : ∀ {d : D}, Rep G A H v d → d.low A.mu.length = true
  | .non, _ | .bl _, _ | .int _, _ | .str _, _ | .frz _, _ => by simp [Q.D.low]
  | .tup xs, r => by
    cases r with
    | tup ha e hl hr => simpa [Q.D.low] using lows_of hl hr
  | .lst xs, r => by
    cases r with
    | lst ha e hl hr => simpa [Q.D.low] using lows_of hl hr
  | .obj c xs, r => by
    cases r with
    | obj ha e hl hr => simpa [Q.D.low] using lows_of hl hr
  | .dik kvs, r => by
    cases r with
    | dik ha e hl hk hr => simpa [Q.D.low] using lowI_of hl hr
  | .dtk kvs, r => by
    cases r with
    | dtk ha e hl hk hr => simpa [Q.D.low] using lowT_of hl hr
  | .ptr n, r => by
    cases r with
    | ptr e => simpa [Q.D.low] using (List.getElem?_eq_some_iff.mp e).1
theorem lows_of : ∀ {ds : List D} {vs : List V}, vs.length = ds.length → (∀ (i : Nat) v d, vs[i]? = some v → ds[i]? = some d → Rep G A H v d) → Q.D.lows A.mu.length ds = true
  | [], vs, _, _ => by simp [Q.D.lows]
  | x :: xs, [], l, _ => by simp at l
  | x :: xs, w :: vs, l, h => by
    rw [Q.D.lows, Bool.and_eq_true]
    exact ⟨low_of (h 0 _ _ rfl rfl), lows_of (vs := vs) (by simpa using l) fun j v d a b => h (j + 1) v d (by simpa using a) (by simpa using b)⟩
theorem lowI_of : ∀ {kvs : List (Int × D)} {ws : List (Key × V)}, ws.length = kvs.length → (∀ (i : Nat) w x, ws[i]? = some w → kvs[i]? = some x → Rep G A H w.2 x.2) → Q.D.lowI A.mu.length kvs = true
  | [], vs, _, _ => by simp [Q.D.lowI]
  | x :: xs, [], l, _ => by simp at l
  | (q, x) :: xs, w :: vs, l, h => by
    rw [Q.D.lowI, Bool.and_eq_true]
    exact ⟨low_of (h 0 _ _ rfl rfl), lowI_of (ws := vs) (by simpa using l) fun j v d a b => h (j + 1) v d (by simpa using a) (by simpa using b)⟩
theorem lowT_of : ∀ {kvs : List (List Int × D)} {ws : List (List Key × V)}, ws.length = kvs.length → (∀ (i : Nat) w x, ws[i]? = some w → kvs[i]? = some x → Rep G A H w.2 x.2) → Q.D.lowT A.mu.length kvs = true
  | [], vs, _, _ => by simp [Q.D.lowT]
  | x :: xs, [], l, _ => by simp at l
  | (q, x) :: xs, w :: vs, l, h => by
    rw [Q.D.lowT, Bool.and_eq_true]
    exact ⟨low_of (h 0 _ _ rfl rfl), lowT_of (ws := vs) (by simpa using l) fun j v d a b => h (j + 1) v d (by simpa using a) (by simpa using b)⟩
end
theorem low_con {p : Addr} {d : D} (hm : ∀ k, k < nn → A.mu[k]? = mu'[k]?) (K : Con G A H p d) (h : d.low nn = true) : Con G ⟨A.p, mu'⟩ H p d := by
  cases d with
  | lst xs => obtain ⟨vs, e, l, r⟩ := K; exact ⟨vs, e, l, lows_mu hm r (by simpa [Q.D.low] using h)⟩
  | obj c xs => obtain ⟨dx, vs, e, l, r⟩ := K; exact ⟨dx, vs, e, l, lows_mu hm r (by simpa [Q.D.low] using h)⟩
  | dik kvs => obtain ⟨ws, e, l, r⟩ := K; exact ⟨ws, e, l, fun i w x a b => ⟨(r i w x a b).1, lowI_mu hm (fun i w x a b => (r i w x a b).2) (by simpa [Q.D.low] using h) i w x a b⟩⟩
  | dtk kvs => obtain ⟨ws, e, l, r⟩ := K; exact ⟨ws, e, l, fun i w x a b => ⟨(r i w x a b).1, lowT_mu hm (fun i w x a b => (r i w x a b).2) (by simpa [Q.D.low] using h) i w x a b⟩⟩
  | _ => exact K.elim
theorem con_low {p : Addr} {d : D} (K : Con G A H p d) : d.low A.mu.length = true := by
  cases d with
  | lst xs => obtain ⟨vs, e, l, r⟩ := K; simpa [Q.D.low] using lows_of l r
  | obj c xs => obtain ⟨dx, vs, e, l, r⟩ := K; simpa [Q.D.low] using lows_of l r
  | dik kvs => obtain ⟨ws, e, l, r⟩ := K; simpa [Q.D.low] using lowI_of l fun i w x a b => (r i w x a b).2
  | dtk kvs => obtain ⟨ws, e, l, r⟩ := K; simpa [Q.D.low] using lowT_of l fun i w x a b => (r i w x a b).2
  | _ => exact K.elim
end
section
variable {G : Cfg} {A B : Reg} {H H' : Hp} {cs cs' : List Addr} {m m' : Mem} {mu' : List Addr}
theorem pre_at {α : Type} {l m : List α} (h : l <+: m) (k : Nat) (hk : k < l.length) : m[k]? = l[k]? := by
  obtain ⟨t, rfl⟩ := h
  exact List.getElem?_append_left hk
/-- the memory cut back to the old places -/
theorem mem_cut (M0 : MemOk G A cs H m) (M : MemOk G ⟨B.p, mu'⟩ cs' H' m') (pre : A.mu <+: mu') (K : Q.Kept m m') : MemOk G ⟨B.p, A.mu⟩ cs' H' (m'.take m.length) := by
  have l0 : A.mu.length = m.length := M0.len
  have l1 : mu'.length = m'.length := M.len
  have l2 : A.mu.length ≤ mu'.length := pre.length_le
  have hm : ∀ k, k < A.mu.length → mu'[k]? = A.mu[k]? := fun k hk => pre_at pre k hk
  have tk : ∀ {n : Nat} {x : Option D}, (m'.take m.length)[n]? = some x → n < m.length ∧ m'[n]? = some x := fun {n x} e => by
    by_cases hn : n < m.length
    · rw [List.getElem?_take_of_lt hn] at e; exact ⟨hn, e⟩
    · rw [List.getElem?_eq_none (by rw [List.length_take]; omega)] at e; cases e
  refine ⟨by show A.mu.length = _; rw [List.length_take]; omega, fun n d e => ?_, fun n k d e p a b c dd => ?_⟩
  · obtain ⟨hn, e1⟩ := tk e
    obtain ⟨p, h1, h2, h3⟩ := M.cell n d e1
    refine ⟨p, (hm n (by omega)).symm.trans h1, h2, ?_⟩
    have lw : d.low A.mu.length = true := by
      rcases K with q | q
      · rw [q] at e
        obtain ⟨_, _, _, K0⟩ := M0.cell n d e
        exact con_low K0
      · have := List.all_eq_true.mp q _ (List.mem_of_getElem? e)
        rw [l0]; exact this
    exact low_con (A := ⟨B.p, mu'⟩) (nn := A.mu.length) (mu' := A.mu) hm h3 lw
  · obtain ⟨hn, a1⟩ := tk a
    obtain ⟨hk, b1⟩ := tk b
    exact M.inj n k d e p a1 b1 ((hm n (by omega)).trans c) ((hm k (by omega)).trans dd)
theorem trM_ok {r : R} {P : R → Prop} (h : P (Q.trM m m' r)) (hb : P .bad → False) : Q.Kept m m' ∧ P r := by
  unfold Q.trM at h
  by_cases k : Q.Kept m m'
  · rw [if_pos k] at h; exact ⟨k, h⟩
  · rw [if_neg k] at h; exact (hb h).elim
end
end QW

set_option Elab.async false
set_option linter.all false
set_option maxRecDepth 100000
set_option maxHeartbeats 4000000
namespace QW
open PySem PySem.Spec PyProof.Rows L2
open Q (D R RA RB Ctl Cl S Mem Pat)
/-! ### a def whose own places are gone behind it -/
section
variable {G : Cfg} {A : Reg} {H : Hp} {cs : List Addr} {P : VK} {E : XK} {n : Nat} {g : Q.F} {vs : List V} {m : Mem}
theorem lows_get {k : Nat} : ∀ {fs : List D} {i : Nat} {d : D}, Q.D.lows k fs = true → fs[i]? = some d → d.low k = true
  | [], i, d, _, e => by simp at e
  | x :: xs, 0, d, h, e => by rw [Q.D.lows, Bool.and_eq_true] at h; simp at e; subst e; exact h.1
  | x :: xs, i + 1, d, h, e => by rw [Q.D.lows, Bool.and_eq_true] at h; exact lows_get h.2 (by simpa using e)
theorem repX_low {B : Reg} {N : Addr → Prop} {H' : Hp} {cls : Value} {dd : Option Addr} {k nn : Nat} {fs : List D} {mu' : List Addr} (hm : ∀ j, j < nn → B.mu[j]? = mu'[j]?) (h : RepX G B N H' cls dd k fs) (l : Q.D.lows nn fs = true) : RepX G ⟨B.p, mu'⟩ N H' cls dd k fs := by
  obtain ⟨e, h⟩ := h
  refine ⟨e, ?_⟩
  rcases h with h | ⟨h0, a, fvs, h1, hn, h2, h3⟩
  · exact .inl h
  · refine .inr ⟨h0, a, fvs, h1, hn, h2, fun i f d q r => ?_⟩
    obtain ⟨v, x, y⟩ := h3 i f d q r
    exact ⟨v, x, low_mu hm y (lows_get l r)⟩
theorem trV_eq {k : Nat} {c : Cl} {m : Mem} {d : D} (h : ∀ j, d ≠ .ptr j) : Q.trV k c m d = if Q.D.low k d = true then .ok d c (m.take k) else .bad := by
  cases d <;> first | rfl | exact absurd rfl (h _)
def AfR (G : Cfg) (A : Reg) (H : Hp) (cs : List Addr) (P : VK) (E : XK) : R → Prop
  | .ok d c m' => ∀ v H' cs' mu', After none A.mu cs H cs' mu' H' → MemOk G (outR A H cs cs' mu') cs' H' m' → RtOk G A H cs cs' mu' m' H' v d c → P v H'
  | .exc k fs m' => ∀ cls dd H' cs' mu', After none A.mu cs H cs' mu' H' → MemOk G (outR A H cs cs' mu') cs' H' m' → RepX G (outR A H cs cs' mu') (newR H cs') H' cls dd k fs → E cls dd H'
  | .bad => False
theorem after_mu {x : Option Addr} {mu mu' cs' : List Addr} {H' : Hp} (F : After x mu cs H cs' mu' H') : After x mu cs H cs' mu H' := ⟨F.keep, F.dom, F.cs, F.live, List.prefix_refl _⟩
theorem spF_trim (h : spF G n (Q.trim g) vs H P E) : spF G n g vs H P E := by
  obtain ⟨A, cs, m, ds, hn, wd, r, h⟩ := h
  refine ⟨A, cs, m, ds, hn, wd, r, ?_⟩
  have h : AfR G A H cs P E (Q.trimR m (g ds m)) := h
  show AfR G A H cs P E (g ds m)
  have l0 : A.mu.length = m.length := wd.mem.len
  cases q : g ds m with
  | bad => rw [q] at h; exact h
  | exc k fs m' =>
    rw [q] at h
    have h : AfR G A H cs P E (Q.trM m m' (if Q.D.lows m.length fs = true then .exc k fs (m'.take m.length) else .bad)) := h
    obtain ⟨K, h⟩ := trM_ok h id
    by_cases lw : Q.D.lows m.length fs = true
    · rw [if_pos lw] at h
      intro cls dd H' cs' mu' F M x
      have hm : ∀ j, j < m.length → (outR A H cs cs' mu').mu[j]? = A.mu[j]? := fun j hj => pre_at F.mu j (by omega)
      exact h cls dd H' cs' A.mu (after_mu F) (mem_cut (B := outR A H cs cs' mu') wd.mem M F.mu K) (repX_low (B := outR A H cs cs' mu') hm x lw)
    · rw [if_neg lw] at h; exact h.elim
  | ok d c m' =>
    rw [q] at h
    have h : AfR G A H cs P E (Q.trM m m' (Q.trV m.length c m' d)) := h
    obtain ⟨K, h⟩ := trM_ok h id
    intro v H' cs' mu' F M rt
    have hm : ∀ j, j < m.length → (outR A H cs cs' mu').mu[j]? = A.mu[j]? := fun j hj => pre_at F.mu j (by omega)
    have cut := mem_cut (B := outR A H cs cs' mu') wd.mem M F.mu K
    by_cases hp : ∃ j, d = .ptr j
    · obtain ⟨j, rfl⟩ := hp
      have rp : Rep G (outR A H cs cs' mu') H' v (.ptr j) := by
        cases c with
        | fresh => obtain ⟨p, _, _, _, z, _⟩ := rt; exact z.elim
        | cold => exact rt
        | hot => exact rt
        | taint => exact rt
      cases rp with
      | @ptr p _ e =>
      have e : mu'[j]? = some p := e
      have h : AfR G A H cs P E (if m.length ≤ j then Q.trO m.length m' (Q.at_ m' j) else .ok (.ptr j) .cold (m'.take m.length)) := h
      by_cases hj : m.length ≤ j
      · rw [if_pos hj] at h
        cases z : Q.at_ m' j with
        | none => rw [z] at h; exact h.elim
        | some d0 =>
          rw [z] at h
          have h : AfR G A H cs P E (if Q.D.low m.length d0 = true then .ok d0 .cold (m'.take m.length) else .bad) := h
          by_cases lw : Q.D.low m.length d0 = true
          · rw [if_pos lw] at h
            obtain ⟨p', h1, h2, h3⟩ := M.cell j d0 (get_mem z)
            have h1 : mu'[j]? = some p' := h1
            have ep : p' = p := Option.some.inj (h1.symm.trans e)
            subst ep
            have ms : ∀ a, a ∈ cs'.filter (fun a => decide (a ≠ p')) → a ∈ cs' := fun a h => (List.mem_filter.mp h).1
            have nm : p' ∉ cs'.filter (fun a => decide (a ≠ p')) := fun h => by have := (List.mem_filter.mp h).2; simp at this
            have F2 : After none A.mu cs H (cs'.filter fun a => decide (a ≠ p')) A.mu H' := ⟨F.keep, F.dom, fun a h => F.cs a (ms a h), fun a h => F.live a (ms a h), List.prefix_refl _⟩
            have wid : Sub (⟨(outR A H cs cs' mu').p, A.mu⟩ : Reg) H' (outR A H cs (cs'.filter fun a => decide (a ≠ p')) A.mu) H' := ⟨fun a o h e => ⟨⟨h.1, fun z => h.2 (ms a z)⟩, e⟩, List.prefix_refl _⟩
            have M2 : MemOk G (outR A H cs (cs'.filter fun a => decide (a ≠ p')) A.mu) (cs'.filter fun a => decide (a ≠ p')) H' (m'.take m.length) := ⟨cut.len, fun i x ei => by
              obtain ⟨p2, g1, g2, g3⟩ := cut.cell i x ei
              have hi : i < m.length := by
                have := (List.getElem?_eq_some_iff.mp ei).1
                rw [List.length_take] at this; omega
              refine ⟨p2, g1, List.mem_filter.mpr ⟨g2, ?_⟩, g3.sub wid fun o z => z⟩
              refine decide_eq_true fun ez => ?_
              rw [List.getElem?_take_of_lt hi] at ei
              have g1' : mu'[i]? = some p2 := (hm i hi).trans g1
              have := M.inj i j x d0 p' ei (get_mem z) (by rw [← ez]; exact g1') h1
              omega, fun a b x y p3 ea eb => cut.inj a b x y p3 ea eb⟩
            refine h (.ref p') H' _ A.mu F2 M2 ?_
            exact ((low_con (A := outR A H cs cs' mu') hm h3 lw).sub wid fun o z => z).rep ⟨(F.cs p' h2).elim (fun z => .inr (.inr z)) fun z => .inr (.inl z), nm⟩
          · rw [if_neg lw] at h; exact h.elim
      · rw [if_neg hj] at h
        exact h (.ref p) H' cs' A.mu (after_mu F) cut (.ptr ((hm j (by omega)).symm.trans e))
    · rw [trV_eq fun j z => hp ⟨j, z⟩] at h
      by_cases lw : Q.D.low m.length d = true
      · rw [if_pos lw] at h
        refine h v H' cs' A.mu (after_mu F) cut ?_
        cases c with
        | fresh =>
          obtain ⟨p, a, b, e, k1, k2⟩ := rt
          exact ⟨p, a, b, e, low_con (A := (outR A H cs cs' mu').but p) hm k1 lw, mem_cut (A := A) (B := (outR A H cs cs' mu').but p) wd.mem k2 F.mu K⟩
        | cold => exact low_mu (A := outR A H cs cs' mu') hm rt lw
        | hot => exact low_mu (A := outR A H cs cs' mu') hm rt lw
        | taint => exact low_mu (A := outR A H cs cs' mu') hm rt lw
      · rw [if_neg lw] at h; exact h.elim
theorem fn_trim {Pg : Program} {w : PySem.World} {K : PySem.W.Frag} {mg : Str → Option Value} {base : Heap} {CX : CXT} {k : Nat} {f : Addr} {fd : FuncData} {ps : List Str} (F : FnOk Pg w K mg base CX k f fd ps (spF G n g)) : FnOk Pg w K mg base CX k f fd ps (spF G n (Q.trim g)) := F.imp fun vs H Q E h => spF_trim h
end
end QW

set_option Elab.async false
set_option linter.all false
set_option maxRecDepth 100000
set_option maxHeartbeats 4000000
namespace QW
open PySem PySem.Spec PyProof.Rows L2
open Q (D S R RA RB Ctl Cl Pat Mem)
section
variable {X : Cx} {W : WX} {G : Cfg} {o tg : Expr} {eo : Q.X} {to : TE} {pos : Pos} {body : List Stmt} {p : Pat} {sb : Q.XS}
/-- what is walked: a list or a tuple -/
def iSeq (K : PySem.W.Frag) (tl : TE) : TI := fun σ H R => tl σ H fun x H1 => ∃ a, x = .ref a ∧ ((∃ xs, SqL K H1 a xs ∧ R (Itl K a) H1) ∨ ∃ xs, SqT K H1 a xs ∧ R (Itt K a) H1)
theorem pi_seq (hl : PE X o to) : PI X tg o (iSeq X.K to) := by
  refine ⟨fun pins s σ H R I h => thn (hl.run pins s σ H _ I h) fun v s1 ⟨x, H1, I1, r1, a, e, q1⟩ => ?_⟩
  subst e
  cases r1
  have kk := I1.kept (t' := s1.toks) (h' := s1.heap) fun b o e => e
  have fin : ∀ T, (∀ b, b ∈ [s1.heap.objs.size] → b = T) → T = s1.heap.objs.size → True := fun _ _ _ => trivial
  rcases q1 with ⟨xs, hq, q⟩ | ⟨xs, hq, q⟩
  · obtain ⟨its, rv, p, hz⟩ := I1.list hq
    refine wpAny_pyIter_list p.isList ⟨s1.heap.objs.size, [s1.heap.objs.size], _, _, H1, rfl, I1.kept (t' := s1.toks) fun b o e => Heap.get?_push_of_some _ e, turn_list a _, ⟨_, Heap.get?_push_size _ rfl, rfl, rfl⟩, fun b hb => ?_, q⟩
    rw [show b = s1.heap.objs.size by simpa using hb]; exact I1.fpOk (Nat.le_refl _) (I1.hok.fresh (Nat.le_refl _))
  · obtain ⟨its, rv, p, hz⟩ := I1.tuple hq
    refine wpAny_pyIter_tuple (show s1.heap.IsTuple a its.toArray from p) ⟨s1.heap.objs.size, [s1.heap.objs.size], _, _, H1, rfl, I1.kept (t' := s1.toks) fun b o e => Heap.get?_push_of_some _ e, turn_tuple a _, ⟨_, Heap.get?_push_size _ rfl, rfl, rfl⟩, fun b hb => ?_, q⟩
    rw [show b = s1.heap.objs.size by simpa using hb]; exact I1.fpOk (Nat.le_refl _) (I1.hok.fresh (Nat.le_refl _))
/-- what a for asks for behind its iterator -/
def Turns (J : It) (g : TG) (tb : TS) (T : Ends) (σ : L2.St) (H1 : Hp) : Prop := ∃ W : Nat → Nat → L2.St → Hp → Prop, (∃ m, W 0 m σ H1) ∧ ∀ i m σ H, W i m σ H →
  (J.stop i H ∧ T.nx σ H) ∨ (J.go i H ∧ ∃ N : L2.St → Hp → Prop, (∀ σ' H', N σ' H' → ∃ m', m' < m ∧ W (i + 1) m' σ' H') ∧ ∀ x H', J.yld i H x H' → g x σ H' fun σ2 H2 => tb { T with nx := N, ct := N, bk := T.nx } σ2 H2)
/-- the turns over what stands still -/
theorem for_still {fm : Fm} {pl1 : Pl} {env : Q.Env} {ks : List (V × D)} {σ : L2.St} {H1 : Hp} {T : Ends} {src : List (V × D)} {ds : List D} {J : It} (E0 : EnvOk G fm pl1 env ks σ H1) (acc : AccS G W fm ks T (Q.forL p sb ds env)) (hsrc : ∀ s ∈ src, Rep G (Cold fm pl1) H1 s.1 s.2) (ok : ItOk G J src ds) :
    Turns J (tG G p) (tS G W sb) T σ H1 := by
  refine ⟨fun i m σ H => i + m = ds.length ∧ ∃ pl env, EnvOk G fm pl env (src ++ ks) σ H ∧ AccS G W fm ks T (Q.forL p sb (ds.drop i) env), ⟨ds.length, by omega, pl1, env, ?_, by simpa using acc⟩, ?_⟩
  · exact { E0 with fr := fun k m => (List.mem_append.mp m).elim (hsrc k) (E0.fr k) }
  · rintro i m σ H ⟨him, pl, env, E, acc⟩
    obtain ⟨o1, o2, o3⟩ := ok (Cold fm pl) H i fun s m => E.fr s (List.mem_append_left _ m)
    have dr : ∀ {pl e σ H}, EnvOk G fm pl e (src ++ ks) σ H → EnvOk G fm pl e ks σ H := fun E => { E with fr := fun k m => E.fr k (List.mem_append_right _ m) }
    by_cases hi : i < ds.length
    · right
      rw [List.drop_eq_getElem_cons hi, Q.forL] at acc
      cases q : p.put ds[i] env with
      | none => rw [q] at acc; exact acc.elim
      | some e1 =>
        rw [q] at acc
        have acc : AccS G W fm ks T (Q.fT (Q.forL p sb (ds.drop (i + 1))) (sb e1)) := acc
        refine ⟨o1 hi, fun σ' H' => ∃ pl e2, EnvOk G fm pl e2 (src ++ ks) σ' H' ∧ AccS G W fm ks T (Q.forL p sb (ds.drop (i + 1)) e2), fun σ' H' ⟨pl, e2, E2, a2⟩ => ⟨m - 1, by omega, by omega, pl, e2, E2, a2⟩, fun x H' y => ?_⟩
        obtain ⟨s2, rx⟩ := o3 x H' _ y (List.getElem?_eq_getElem hi)
        refine ⟨fm, pl, env, src ++ ks, ds[i], e1, E.later s2, rx.sub ⟨fun a o h e => ⟨h.elim id fun h => E.newCold h, e⟩, List.prefix_refl _⟩, q, fun σ2 E3 _ => ⟨fm, pl, e1, src ++ ks, E3, ?_⟩⟩
        cases q2 : sb e1 with
        | nx e2 => rw [q2] at acc; exact fun pl σ H E => ⟨pl, e2, E, acc⟩
        | ct e2 => rw [q2] at acc; exact fun pl σ H E => ⟨pl, e2, E, acc⟩
        | bk e2 => rw [q2] at acc; exact fun pl σ H E => acc pl σ H (dr E)
        | rt d c e2 => rw [q2] at acc; exact fun v pl σ H E r => acc v pl σ H (dr E) r
        | exc k fs e2 => rw [q2] at acc; exact fun cls dd pl σ H E x => acc cls dd pl σ H (dr E) x
        | bad => rw [q2] at acc; exact acc.elim
    · left
      have hi' : i = ds.length := by omega
      refine ⟨o2 hi', ?_⟩
      rw [hi', List.drop_length, Q.forL] at acc
      exact acc pl σ H (dr E)
theorem cell_sq {fm : Fm} {pl : Pl} {env : Q.Env} {ks : List (V × D)} {σ : L2.St} {H : Hp} {a : Addr} {n : Nat} {ds : List D} (E : EnvOk G fm pl env ks σ H) (r : Rep G (Cold fm pl) H (.ref a) (.ptr n)) (q : Q.at_ env.mem n = some (.lst ds)) : ∃ vs, SqL G.K H a vs ∧ Reps G (Cold fm pl) H vs ds := by
  have r2 : Rep G (TR fm pl) H (.ref a) (.ptr n) := by
    cases r with
    | ptr e => exact .ptr e
  obtain ⟨p, e, _, _, ⟨vs, h1, h2⟩, _⟩ := cell_look E r2 q
  cases e
  exact ⟨vs, .inl (.inl h1), h2⟩
/-- the turns over a list of the memory -/
theorem for_place {K : PySem.W.Frag} (hK : K = G.K) {fm : Fm} {pl1 : Pl} {env : Q.Env} {ks : List (V × D)} {σ : L2.St} {H1 : Hp} {T : Ends} {a : Addr} {n f : Nat} (E0 : EnvOk G fm pl1 env ks σ H1) (r0 : Rep G (Cold fm pl1) H1 (.ref a) (.ptr n)) (acc : AccS G W fm ks T (Q.forP n p sb f 0 env)) :
    Turns (Itl K a) (tG G p) (tS G W sb) T σ H1 := by
  subst hK
  refine ⟨fun i m σ H => ∃ pl env, EnvOk G fm pl env ((.ref a, .ptr n) :: ks) σ H ∧ AccS G W fm ks T (Q.forP n p sb m i env), ⟨f, pl1, env, ?_, acc⟩, ?_⟩
  · exact { E0 with fr := fun k m => (List.mem_cons.mp m).elim (fun z => by rw [z]; exact r0) (E0.fr k) }
  · rintro i m σ H ⟨pl, env, E, acc⟩
    have dr : ∀ {pl e σ H}, EnvOk G fm pl e ((.ref a, .ptr n) :: ks) σ H → EnvOk G fm pl e ks σ H := fun E => { E with fr := fun k m => E.fr k (List.mem_cons_of_mem _ m) }
    cases m with
    | zero => exact acc.elim
    | succ m =>
      rw [Q.forP] at acc
      cases q0 : Q.at_ env.mem n with
      | none => rw [q0] at acc; exact acc.elim
      | some d =>
        rw [q0] at acc
        cases d with
        | lst ds =>
          obtain ⟨vs, sq, rr⟩ := cell_sq E (E.fr _ List.mem_cons_self) q0
          have acc : AccS G W fm ks T (Q.fpT p sb env (Q.forP n p sb m (i + 1)) (ds[i]?)) := acc
          cases q1 : ds[i]? with
          | none =>
            rw [q1] at acc
            have hl := List.getElem?_eq_none_iff.mp q1
            exact .inl ⟨⟨vs, sq, by rw [rr.1]; exact hl⟩, acc pl σ H (dr E)⟩
          | some d =>
            rw [q1] at acc
            obtain ⟨v, h1, h2⟩ := rr.get q1
            right
            cases q : p.put d env with
            | none =>
              have acc : AccS G W fm ks T (Q.fO (fun e1 => Q.fT (Q.forP n p sb m (i + 1)) (sb e1)) (p.put d env)) := acc
              rw [q] at acc; exact acc.elim
            | some e1 =>
              have acc : AccS G W fm ks T (Q.fO (fun e1 => Q.fT (Q.forP n p sb m (i + 1)) (sb e1)) (p.put d env)) := acc
              rw [q] at acc
              have acc : AccS G W fm ks T (Q.fT (Q.forP n p sb m (i + 1)) (sb e1)) := acc
              refine ⟨⟨vs, v, sq, h1⟩, fun σ' H' => ∃ pl e2, EnvOk G fm pl e2 ((.ref a, .ptr n) :: ks) σ' H' ∧ AccS G W fm ks T (Q.forP n p sb m (i + 1) e2), fun σ' H' ⟨pl, e2, E2, a2⟩ => ⟨m, Nat.lt_succ_self _, pl, e2, E2, a2⟩, fun x H' y => ?_⟩
              obtain ⟨eH, y⟩ := y
              subst eH
              have ex := (y vs sq).symm.trans h1
              cases ex
              refine ⟨fm, pl, env, (.ref a, .ptr n) :: ks, d, e1, E, h2, q, fun σ2 E3 _ => ⟨fm, pl, e1, (.ref a, .ptr n) :: ks, E3, ?_⟩⟩
              cases q2 : sb e1 with
              | nx e2 => rw [q2] at acc; exact fun pl σ H E => ⟨pl, e2, E, acc⟩
              | ct e2 => rw [q2] at acc; exact fun pl σ H E => ⟨pl, e2, E, acc⟩
              | bk e2 => rw [q2] at acc; exact fun pl σ H E => acc pl σ H (dr E)
              | rt d c e2 => rw [q2] at acc; exact fun v pl σ H E r => acc v pl σ H (dr E) r
              | exc k fs e2 => rw [q2] at acc; exact fun cls dd pl σ H E x => acc cls dd pl σ H (dr E) x
              | bad => rw [q2] at acc; exact acc.elim
        | _ => exact acc.elim
/-- for over a list, a tuple, a list of the memory -/
theorem s_forx (hK : X.K = G.K) (hp : PassesOwn (model X.prog X.w) X.A X.env X.xe) (hc : X.calm = true) (ho : PE X o (tE G W eo)) (hg : PG X tg (tG G p)) (hb : PSs X body (tS G W sb)) (hs : ∀ x, foldedSetIterable o X.env x = pure x := by intro _; rfl) :
    PS X (.For tg o body [] pos) (tS G W (Q.sforx eo p sb)) :=
  PS.conv (ps_for hp hc (pi_seq ho) hg hb hs) fun T σ H ⟨fm, pl, env, ks, E, acc⟩ => by
    have e : Q.sforx eo p sb env = Q.fxS p sb env (eo env) := rfl
    rw [e] at acc
    refine ⟨fm, pl, env, E.drop, ?_⟩
    cases q : eo env with
    | exc k fs m => rw [q] at acc; exact acc.elim
    | bad => rw [q] at acc; exact acc.elim
    | ok d c m =>
      rw [q] at acc
      have acc : AccS G W fm ks T (Q.fxV p sb env c m d) := acc
      intro pl1 v H1 E1 s1 o1
      have E0 := env_back E s1 E1
      have lsC : ∀ ds, Rep G (Cold fm pl1) H1 v (.lst ds) → AccS G W fm ks T (Q.forL p sb ds (env.wm m)) → ∃ a, v = .ref a ∧ ((∃ xs, SqL X.K H1 a xs ∧ Turns (Itl X.K a) (tG G p) (tS G W sb) T σ H1) ∨ ∃ xs, SqT X.K H1 a xs ∧ Turns (Itt X.K a) (tG G p) (tS G W sb) T σ H1) := fun ds r acc => by
        obtain ⟨a, rfl⟩ := r.lst_inv
        obtain ⟨vs, _, sq, _⟩ := r.lstSq
        exact ⟨a, rfl, .inl ⟨vs, hK ▸ sq, for_still E0 acc (src := [(.ref a, .lst ds)]) (fun s m => by simp at m; subst m; exact r) (it_list hK)⟩⟩
      show ∃ a, v = .ref a ∧ ((∃ xs, SqL X.K H1 a xs ∧ Turns (Itl X.K a) (tG G p) (tS G W sb) T σ H1) ∨ ∃ xs, SqT X.K H1 a xs ∧ Turns (Itt X.K a) (tG G p) (tS G W sb) T σ H1)
      cases d with
      | ptr n =>
        have acc : AccS G W fm ks T (Q.forP n p sb 1000001 0 (env.wm m)) := acc
        have r : Rep G (Cold fm pl1) H1 v (.ptr n) := by
          have r := o1.anyR
          cases r with
          | ptr e => exact .ptr e
        have r' := r
        cases r' with
        | @ptr a _ e =>
          have acc2 : ∃ ds, Q.at_ m n = some (.lst ds) := by
            rw [Q.forP] at acc
            cases z : Q.at_ (env.wm m).mem n with
            | none => rw [z] at acc; exact acc.elim
            | some d =>
              rw [z] at acc
              cases d with
              | lst ds => exact ⟨ds, z⟩
              | _ => exact acc.elim
          obtain ⟨ds, z⟩ := acc2
          obtain ⟨vs, sq, _⟩ := cell_sq E0 r z
          exact ⟨a, rfl, .inl ⟨vs, hK ▸ sq, for_place hK E0 r acc⟩⟩
      | tup ds =>
        have acc : AccS G W fm ks T (Q.foR p sb env (if c = .cold then .ok ds false m else .bad)) := acc
        by_cases hcc : c = .cold
        · rw [if_pos hcc] at acc
          subst hcc
          have r : Rep G (Cold fm pl1) H1 v (.tup ds) := o1
          obtain ⟨a, rfl⟩ := r.tup_inv
          obtain ⟨vs, _, sq, _⟩ := r.tupSq
          exact ⟨a, rfl, .inr ⟨vs, hK ▸ sq, for_still E0 acc (src := [(.ref a, .tup ds)]) (fun s m => by simp at m; subst m; exact r) (it_tup hK)⟩⟩
        · rw [if_neg hcc] at acc; exact acc.elim
      | lst ds =>
        cases c with
        | cold => exact lsC ds o1 acc
        | fresh => exact lsC ds (o1.clean rfl) acc
        | hot => exact acc.elim
        | taint => exact acc.elim
      | frz ns =>
        cases c with
        | cold =>
          have r : Rep G (Cold fm pl1) H1 v (.frz ns) := o1
          obtain ⟨a, rfl⟩ := r.frz_inv
          exact ⟨a, rfl, .inl ⟨_, hK ▸ r.frzSq, for_still E0 acc (src := [(.ref a, .frz ns)]) (fun s m => by simp at m; subst m; exact r) (it_frz hK)⟩⟩
        | _ => exact acc.elim
      | _ => cases c <;> exact acc.elim
end
end QW

set_option Elab.async false
set_option linter.all false
set_option maxRecDepth 100000
set_option maxHeartbeats 4000000
namespace QW
open PySem PySem.Spec PyProof.Rows L2
open Q (D S R RA RB Ctl Cl Pat Mem)
section
theorem tuple_mul1 (l : Addr) (items : Array Value) (n : Nat) (dd : Option Addr) (sl : Array (Option Value)) (u : Tok) :
    Meets (Builtin.«tuple.__mul__» ⟨[.ref l, .int 1 u], []⟩) (fun _ R s => s.heap.get? l = some { cls := .type "tuple", dict := dd, data := .seq items n, slots := sl } ∧ R (.ok (.ret (Value.ref l))) s) :=
  .of_wp fun prog w A R s h => by
    obtain ⟨hp, g, d, tk, os⟩ := s
    obtain ⟨hl, h⟩ := h
    have f1 := AutoSeq1.idx_int
    wp_walk using wpAny_loadPart' hl
    exact ⟨_, rfl, h⟩
variable {X : Cx} {W : WX} {G : Cfg} {a b : Expr} {ea eb : Q.X} {pos : Pos}
def rRep1 (K : PySem.W.Frag) : R2 := fun x y H Q => ∃ l xs, x = .ref l ∧ y = .int 1 ∧ SqT K H l xs ∧ Q (.ref l) H
theorem op_rep1 : OpR X (binaryOp .Mult) (rRep1 X.K) := by
  intro pins s σ H x y v u Q I rx ry h
  obtain ⟨l, xs, rfl, rfl, hT, q⟩ := h
  cases rx
  obtain ⟨t, rfl⟩ := ry
  obtain ⟨its, r, ⟨⟨cls, dd, data, sl⟩, ho, hc, n, hd⟩, hs⟩ := I.tuple hT
  simp only at hc hd
  subst hc hd
  exact wpAny_binaryOp_repeat_ref (T := "tuple") (U := "int") (by decide) ⟨_, ho, rfl⟩ (fun s' => typeIs_int s' 1 t) noFill_tuple_mul F.fills_int_mul F.slot_int_rmul repeat_tuple F.slot_int_index.lookup
    (call_meets F.slot_int_rmul (typeIs_int s 1 t) F.entry_int_rmul (F.args_int_rmul_2 _ _) (int_rmul_tuple 1 t l its.toArray n dd sl)
      ⟨ho, rfl, ⟨_, ho, rfl⟩, call_meets F.slot_tuple_mul ⟨_, ho, rfl⟩ F.entry_tuple_mul (F.args_tuple_mul_2 _ _) (tuple_mul1 l its.toArray n dd sl t) ⟨ho, .ref l, H, I, rfl, q⟩⟩)
theorem op_or {o : V → V → Hp → VK → Prop} {r1 r2 : R2} {op : Value → Value → Sem Value} (h1 : OpR X op r1) (h2 : OpR X op r2) : OpR X op fun x y H Q => r1 x y H Q ∨ r2 x y H Q :=
  fun pins s σ H x y v u Q I rx ry h => h.elim (fun h => h1 pins s σ H x y v u Q I rx ry h) fun h => h2 pins s σ H x y v u Q I rx ry h
theorem q_rept (hK : X.K = G.K) (ha : PE X a (tE G W ea)) (hb : PE X b (tE G W eb)) : PE X (.BinOp a .Mult b pos) (tE G W (Q.rept ea eb)) :=
  (pe_op (op_or (o := fun _ _ _ _ => True) op_rep1 op_repT) ha hb).conv fun σ H P ⟨fm, pl, env, E, acc⟩ => tE_in E (acc_bind acc) fun pl1 d c m1 v H1 E1 s1 o1 acc1 => tE_in E1 (acc_bind acc1) fun pl2 d2 c2 m2 v2 H2 E2 s2 o2 acc2 => by
    obtain ⟨x, c, l1, acc3⟩ := acc_rd E2 (o1.at s2) acc2
    cases x with
    | tup xs =>
      cases d2 with
      | int k =>
        have acc3 : AccR G W fm pl2 (env.wm m2) σ H2 (if 1 ≤ k ∧ k ≤ 1000 ∧ xs.isEmpty = false ∧ xs.length ≤ 1000 then .ok (.tup (Q.repD xs k)) (Q.part c (.tup (Q.repD xs k))) m2 else .bad) fun _ _ _ _ v H' => P v H' := acc3
        by_cases q : 1 ≤ k ∧ k ≤ 1000 ∧ xs.isEmpty = false ∧ xs.length ≤ 1000
        · rw [if_pos q] at acc3
          cases (o2.anyR)
          obtain ⟨p1, vs, rfl, e1, r1⟩ := l1.tup xs rfl
          have hT : SqT X.K H2 p1 vs := by rw [hK]; exact SqT.of e1
          by_cases k1 : k = 1
          · subst k1
            refine .inl ⟨p1, vs, rfl, rfl, hT, ?_⟩
            have e : Q.repD xs 1 = xs := by simp [Q.repD]
            rw [e] at acc3
            exact acc3 _ _ _ E2 (Ext.refl _) (part_ok (l1.tupR xs rfl))
          · refine .inr ⟨p1, k, vs, rfl, rfl, hT, fun z => ?_, by omega, by omega, by rw [r1.1]; exact q.2.2.2, fun t ht => ?_⟩
            · have := r1.1
              rw [z] at this
              have : xs = [] := List.eq_nil_of_length_eq_zero this.symm
              rw [this] at q; simp at q
            · refine acc3 _ _ _ (E2.later (same_new ht)) (ext_new ht) ?_
              refine part_ok (c := c) (H := H2) ?_
              have rr := (r1.rep k.toNat).sub (new_reg (o := .tup (List.replicate k.toNat vs).flatten) ht)
              have hp : (regC fm pl2 c).p t := by
                cases c with
                | taint => exact E2.newTR ht
                | cold => exact E2.newCold ht
                | fresh => exact E2.newCold ht
                | hot => exact E2.newCold ht
              exact Rep.tup hp upd_same rr.1 rr.2
        · rw [if_neg q] at acc3; exact acc3.elim
      | _ => exact acc3.elim
    | _ => cases d2 <;> exact acc3.elim
end
end QW

set_option Elab.async false
set_option linter.all false
set_option maxRecDepth 100000
set_option maxHeartbeats 4000000
namespace QW
open PySem PySem.Spec PyProof.Rows L2
open Q (D S R RA RB Ctl Cl Pat Mem)
/-! ### [.. for i, j in d], d a dict of the memory: it is locked while it is walked -/
section
variable {G : Cfg} {A B : Reg} {H H' : Hp} {d : Addr} {od : Obj} {ws : List (List Key × V)}
theorem Rep.avoid {v : V} {x : D} (h : Rep G A H v x) (hd : H d = some (.frz od (.dT ws))) : Rep G (A.but d) H v x := by
  have ne : ∀ {a : Addr} {u : HO}, H a = some u → (∀ o y, u ≠ .frz o y) → a ≠ d := fun {a u} e n z => by
    rw [z, hd] at e; cases e; exact n _ _ rfl
  induction h with
  | non => exact .non
  | bl b => exact .bl b
  | int i => exact .int i
  | str x => exact .str x
  | lst ha h hl _ ih => exact .lst ⟨ha, ne h fun _ _ z => nomatch z⟩ h hl ih
  | tup ha h hl _ ih => exact .tup ⟨ha, ne h fun _ _ z => nomatch z⟩ h hl ih
  | frz h =>
    refine .frz ?_
    rcases h with ⟨ha, h⟩ | h
    · refine .inl ⟨⟨ha, ?_⟩, h⟩
      rcases h with h | ⟨o, h⟩
      · exact ne h fun _ _ z => nomatch z
      · intro z; rw [z, hd] at h; cases h
    · exact .inr h
  | obj ha h hl _ ih => exact .obj ⟨ha, ne h fun _ _ z => nomatch z⟩ h hl ih
  | dik ha h hl hk _ ih => exact .dik ⟨ha, ne h fun _ _ z => nomatch z⟩ h hl hk ih
  | dtk ha h hl hk _ ih => exact .dtk ⟨ha, ne h fun _ _ z => nomatch z⟩ h hl hk ih
  | ptr h => exact .ptr h
theorem Con.avoid {p : Addr} {x : D} (h : Con G A H p x) (hd : H d = Option.some (.frz od (.dT ws))) : Con G (A.but d) H p x := by
  cases x with
  | lst ds => obtain ⟨vs, a, b⟩ := h; exact ⟨vs, a, b.1, fun i v x e f => (b.2 i v x e f).avoid hd⟩
  | obj c ds => obtain ⟨dx, vs, a, b⟩ := h; exact ⟨dx, vs, a, b.1, fun i v x e f => (b.2 i v x e f).avoid hd⟩
  | dik kvs => obtain ⟨ws, a, b⟩ := h; exact ⟨ws, a, b.1, fun i v x e f => ⟨(b.2 i v x e f).1, (b.2 i v x e f).2.avoid hd⟩⟩
  | dtk kvs => obtain ⟨ws, a, b⟩ := h; exact ⟨ws, a, b.1, fun i v x e f => ⟨(b.2 i v x e f).1, (b.2 i v x e f).2.avoid hd⟩⟩
  | _ => exact h.elim
end
section
variable {G : Cfg} {fm : Fm} {pl : Pl} {env : Q.Env} {ks : List (V × D)} {σ : L2.St} {H : Hp} {n : Nat} {x0 : D} {p : Addr}
def Pl.off (pl : Pl) (p : Addr) : Pl := ⟨pl.hs, pl.cs.filter fun a => decide (a ≠ p), pl.mu⟩
theorem off_mem {a : Addr} : a ∈ (pl.off p).cs ↔ a ∈ pl.cs ∧ a ≠ p := by
  unfold Pl.off
  simp
theorem off_sub {o : HO} (hp : p ∈ pl.cs) : Sub (Cold fm pl) H (Cold fm (pl.off p)) (upd H p o) := ⟨fun a u h e => ⟨⟨h.1, h.2.1, fun z => h.2.2 (off_mem.mp z).1⟩, upd_keep (fun z => h.2.2 (z ▸ hp)) e⟩, List.prefix_refl _⟩
/-- a thing of the memory is taken out of it, and written -/
theorem EnvOk.take {o : HO} (E : EnvOk G fm pl env ks σ H) (hd : env.mem[n]? = some (some x0)) (hm : pl.mu[n]? = some p) (hp : p ∈ pl.cs) (no : NT o := by intro _ z; cases z) : EnvOk G fm (pl.off p) (env.wm (env.mem.set n none)) ks σ (upd H p o) where
  ex := E.exW (.inr hp)
  dom := fun a h => upd_dom (E.dom a h)
  tA := E.tA
  len := E.len
  bor := E.bor
  c0 := E.c0
  mup := E.mup
  ms0 := E.ms0
  msh := E.msh
  hn := fun a m => ⟨(E.hn a m).1, upd_lv no (E.hn a m).2⟩
  cn := fun a m => ⟨(E.cn a (off_mem.mp m).1).1, upd_lv no (E.cn a (off_mem.mp m).1).2.1, (E.cn a (off_mem.mp m).1).2.2⟩
  mem := by
    have old : ∀ {k : Nat} {x : D}, (env.mem.set n none)[k]? = some (some x) → k ≠ n ∧ env.mem[k]? = some (some x) := fun {k x} e => by
      rcases get_set e with ⟨rfl, _, z⟩ | ⟨hne, e⟩
      · cases z
      · exact ⟨hne, e⟩
    refine ⟨?_, fun k x e => ?_, fun j k x y q h1 h2 h3 h4 => ?_⟩
    · show pl.mu.length = (env.mem.set n none).length
      rw [List.length_set]; exact E.mem.len
    · obtain ⟨hne, e⟩ := old e
      obtain ⟨q, a, b, c⟩ := E.mem.cell k x e
      have nq : q ≠ p := fun z => hne (E.mem.inj k n x x0 p e hd (z ▸ a) hm)
      exact ⟨q, a, off_mem.mpr ⟨b, nq⟩, c.sub (off_sub hp) fun o e => upd_keep nq e⟩
    · exact E.mem.inj j k x y q (old h1).2 (old h2).2 h3 h4
  slot := fun i s q => by
    have nh : ∀ {q' : Addr}, q' ∈ pl.hs → q' ≠ p := fun m z => (E.cn p hp).2.2 (z ▸ m)
    exact SlotOk.sub (E.slot i s q) (off_sub hp) (fun a m => m) (fun a m o e => upd_keep (nh m) e) (fun a o h e => upd_keep (fun z => E.notBor (.inr hp) (z ▸ h)) e) fun a o h e => ⟨⟨h.1, h.2.1, fun z => h.2.2 (off_mem.mp z).1⟩, upd_keep (fun z => h.2.2 (z ▸ hp)) e⟩
  inj := E.inj
  fr := fun k m => (E.fr k m).sub (off_sub hp)
end
/-- a key that is unpacked: nothing is asked of where its tuple lies -/
def tGk (G : Cfg) (is : List Nat) : TG := fun v σ H P => ∃ (fm : Fm) (pl : Pl) (env : Q.Env) (ks : List (V × D)) (ns : List Int) (env' : Q.Env) (q : Addr), EnvOk G fm pl env ks σ H ∧ v = .ref q ∧ H q = some (.tup (ns.map V.int)) ∧ Q.setMany is (ns.map D.int) env = some env' ∧ ∀ σ', EnvOk G fm pl env' ks σ' H → Keeps is σ σ' → P σ' H
section
variable {X : Cx} {G : Cfg} {pos : Pos}
theorem q_tpk {es : List Expr} {k : Nat} {is : List Nat} (hc : X.calm = true) (h : PGs X es (tGs G is))
    (hn : (assignEach es X.env).length = is.length := by rfl) (hst : (assignEach es X.env).findIdx? (·.1) = none := by rfl) : PG X (.Tuple es k pos) (tGk G is) :=
  (pg_tup hc h hn hst).conv fun v σ H P ⟨fm, pl, env, ks, ns, env', q, E, ev, hq, hs, kk⟩ => by
    subst ev
    exact ⟨q, ns.map V.int, rfl, .inl (.inl hq), by have := setMany_length hs; simp at this; simpa using this, fm, pl, env, ks, ns.map D.int, env', E, reps_ints ns, hs, kk⟩
end
section
variable {X : Cx} {W : WX} {G : Cfg} {tt : Q.XB} {te : Q.X} {is : List Nat}
/-- the turns of a comprehension over the keys of a locked dict -/
theorem lcd_loop {vs : List Nat} {fm : Fm} {pl1 : Pl} {env : Q.Env} {σ : L2.St} {H1 : Hp} {m0 mf : Mem} {ys : List D} {d : Addr} {od : Obj} {ws : List (List Key × V)} {kvs : List (List Int × D)} {QQ : VK} (hsub : ∀ i ∈ is, i ∈ vs)
    (E1 : EnvOk G fm pl1 (env.wm m0) [] σ H1) (hfz : H1 d = some (.frz od (.dT ws))) (hdc : d ∉ pl1.cs) (hl0 : ws.length = kvs.length) (hkey : ∀ (i : Nat) w x, ws[i]? = some w → kvs[i]? = some x → w.1 = x.1.map Sum.inl)
    (q2 : Q.lcLoop (.tp is) tt te (Q.wipeE env vs) (kvs.map fun kv => Q.tupK kv.1) m0 [] = some (ys, mf))
    (fin : ∀ pl' v H', EnvOk G fm pl' (env.wm mf) [] σ H' → Ext pl1 H1 pl' H' → FOk G fm pl' mf H1 H' v (.lst ys) .fresh → QQ v H') :
    ∀ D, H1 D = none → ∃ W : Nat → Nat → Hp → Prop, (∃ m, W 0 m (upd H1 D (.lst []))) ∧ ∀ i m H, W i m H →
      ((Itkt d od ws).stop i H ∧ QQ (.ref D) H) ∨ ((Itkt d od ws).go i H ∧ ∃ Nx : Hp → Prop, (∀ H', Nx H' → ∃ m', m' < m ∧ W (i + 1) m' H') ∧ ∀ x H', (Itkt d od ws).yld i H x H' → tGk G is x (wipe σ vs) H' fun σ2 H2 => wipe σ2 vs = wipe σ vs ∧ tT G noW tt σ2 H2 fun b H3 =>
        if b = true then tE G noW te σ2 H3 fun y H4 => ∃ acc, H4 D = some (.lst acc) ∧ acc.length < sizeLine ∧ Nx (upd H4 D (.lst (acc ++ [y]))) else Nx H3) := by
  generalize hds : (kvs.map fun kv => Q.tupK kv.1) = ds at q2
  have hlen : ds.length = ws.length := by rw [← hds, List.length_map, hl0]
  intro D hD
  have nd : ∀ (i : Nat) s, (Q.wipeE env vs).sl[i]? = some s → isHot s → (wipe σ vs)[i]? ≠ some (some (.ref D)) := fun i s h1 h2 h3 => by
    have sl := (E1.wipe vs).slot i s h1
    cases s with
    | hot d =>
      obtain ⟨q, a, b, n, c⟩ := sl
      rw [h3] at a
      cases a
      exact E1.newHs hD b
    | slf k ds =>
      obtain ⟨q, a, b, n, c⟩ := sl
      rw [h3] at a
      cases a
      exact E1.newHs hD b
    | _ => exact h2
  refine ⟨fun i m H' => i + m = ds.length ∧ ∃ pl' μ vacc dacc, pl'.hs = D :: pl1.hs ∧ EnvOk G fm pl' ((Q.wipeE env vs).wm μ) [] (wipe σ vs) H' ∧ Ext pl1 H1 (pl'.at pl1.hs) H' ∧ H' D = some (.lst vacc) ∧ Reps G (Cold fm pl') H' vacc dacc ∧
    Q.lcLoop (.tp is) tt te (Q.wipeE env vs) (ds.drop i) μ dacc = some (ys, mf), ⟨ds.length, by omega, pl1.addH D, m0, [], [], rfl, ?_, ext_new hD, upd_same, Reps.nil, by simpa using q2⟩, ?_⟩
  · have E2 : EnvOk G fm pl1 ((Q.wipeE env vs).wm m0) [] (wipe σ vs) H1 := { E1.wipe vs with fr := fun k m => by simp at m }
    exact E2.hide hD
  · rintro i m H' ⟨him, pl', μ, vacc, dacc, hh, E', s', hDv, rr, hl⟩
    have hDh : D ∈ pl'.hs := by rw [hh]; exact List.mem_cons_self
    have hfz' : H' d = some (.frz od (.dT ws)) := s'.keep _ _ hfz hdc
    by_cases hi : i < ds.length
    · right
      refine ⟨⟨hfz', by omega⟩, fun H'' => ∃ m', m' < m ∧ (i + 1) + m' = ds.length ∧ ∃ pl' μ vacc dacc, pl'.hs = D :: pl1.hs ∧ EnvOk G fm pl' ((Q.wipeE env vs).wm μ) [] (wipe σ vs) H'' ∧ Ext pl1 H1 (pl'.at pl1.hs) H'' ∧ H'' D = some (.lst vacc) ∧ Reps G (Cold fm pl') H'' vacc dacc ∧
        Q.lcLoop (.tp is) tt te (Q.wipeE env vs) (ds.drop (i + 1)) μ dacc = some (ys, mf), fun H'' h => ?_, fun x H2 y => ?_⟩
      · obtain ⟨m', a, b, c⟩ := h
        exact ⟨m', a, b, c⟩
      · obtain ⟨eH, k, vv, q, hkv, ex, hq⟩ := y
        subst eH
        obtain ⟨kv, hkv2⟩ : ∃ kv, kvs[i]? = some kv := ⟨kvs[i]'(by omega), List.getElem?_eq_getElem (by omega)⟩
        have hk1 := hkey i _ _ hkv hkv2
        have hk1 : k = kv.1.map Sum.inl := hk1
        have hdi : ds[i] = .tup (kv.1.map Q.D.int) := by
          have e1 : ds[i]? = some (Q.tupK kv.1) := by rw [← hds, List.getElem?_map, hkv2]; rfl
          rw [List.getElem?_eq_getElem hi] at e1
          exact Option.some.inj e1
        have hq2 : H2 q = some (.tup (kv.1.map V.int)) := by rw [hq, hk1, keys_ints]
        rw [List.drop_eq_getElem_cons hi, Q.lcLoop, hdi] at hl
        unfold Q.lcTurn at hl
        have e0 : Q.Pat.put (.tp is) (.tup (kv.1.map Q.D.int)) ((Q.wipeE env vs).wm μ) = Q.setMany is (kv.1.map Q.D.int) ((Q.wipeE env vs).wm μ) := rfl
        rw [e0] at hl
        cases q3 : Q.setMany is (kv.1.map Q.D.int) ((Q.wipeE env vs).wm μ) with
        | none => rw [q3] at hl; cases hl
        | some e1 =>
          rw [q3] at hl
          have hl : (match Q.l2S te e1 (tt e1) with
            | some (some y, m') => if dacc.length < Q.most then Q.lcLoop (.tp is) tt te (Q.wipeE env vs) (ds.drop (i + 1)) m' (dacc ++ [y]) else none
            | some (none, m') => Q.lcLoop (.tp is) tt te (Q.wipeE env vs) (ds.drop (i + 1)) m' dacc
            | none => none) = some (ys, mf) := hl
          refine ⟨fm, pl', _, [], kv.1, e1, q, E', ex, hq2, q3, fun σ2 E3 kp => ⟨wipe_keeps kp hsub, ?_⟩⟩
          have s2 : Same H2 H2 := fun _ _ e => e
          have back : ∀ {pl3 : Pl} {H3 : Hp} {μ3 : Mem}, EnvOk G fm pl3 (e1.wm μ3) [] σ2 H3 → Ext pl' H2 pl3 H3 → EnvOk G fm pl3 ((Q.wipeE env vs).wm μ3) [] (wipe σ vs) H3 := fun {pl3 H3 μ3} E4 s4 => by
            have z := ext_wm (e' := e1.wm μ3) E' s4 E4
            exact z
          have outer : ∀ {pl3 : Pl} {H3 : Hp}, Ext pl' H2 pl3 H3 → Ext pl1 H1 (pl3.at pl1.hs) H3 := fun {pl3 H3} s4 => ⟨fun a o e n => s4.keep a o (s'.keep a o e n) fun m => (s'.cs a m).elim n (fun z => by rw [z] at e; cases e),
            fun a h => s4.dom a (s'.dom a h), rfl, fun a m => (s4.cs a m).elim (fun m => s'.cs a m) fun z => .inr (s'.free z), s'.mu.trans s4.mu⟩
          cases q4 : tt e1 with
          | exc k fs m => simp only [q4] at hl; cases hl
          | bad => simp only [q4] at hl; cases hl
          | ok b m3 =>
            simp only [q4] at hl
            refine ⟨fm, pl', e1, E3.drop, ?_⟩
            rw [q4]
            intro pl3 H3 E4 s3
            cases b with
            | false =>
              rw [if_neg (by simp)]
              have E5 := back E4 s3
              have hl : Q.lcLoop (.tp is) tt te (Q.wipeE env vs) (ds.drop (i + 1)) m3 dacc = some (ys, mf) := hl
              exact ⟨m - 1, by omega, by omega, pl3, m3, vacc, dacc, s3.hs.trans hh, E5, outer s3, s3.keep _ _ hDv (fun m => (E'.cn D m).2.2 hDh), rr.sub s3.cold, hl⟩
            | true =>
              rw [if_pos rfl]
              have hl : (match Q.l3S (te (e1.wm m3)) with
                | some (some y, m') => if dacc.length < Q.most then Q.lcLoop (.tp is) tt te (Q.wipeE env vs) (ds.drop (i + 1)) m' (dacc ++ [y]) else none
                | some (none, m') => Q.lcLoop (.tp is) tt te (Q.wipeE env vs) (ds.drop (i + 1)) m' dacc
                | none => none) = some (ys, mf) := hl
              refine ⟨fm, pl3, e1.wm m3, E4, ?_⟩
              cases q5 : te (e1.wm m3) with
              | exc k fs m => simp only [q5] at hl; cases hl
              | bad => simp only [q5] at hl; cases hl
              | ok y c m4 =>
                simp only [q5] at hl
                intro pl4 v H4 E5 s4 o4
                have s34 := s3.trans s4
                by_cases hd : Q.dirty c y = true
                · have hl : (match (if Q.dirty c y = true then none else some (some y, m4) : Option (Option Q.D × Mem)) with
                    | some (some y, m') => if dacc.length < Q.most then Q.lcLoop (.tp is) tt te (Q.wipeE env vs) (ds.drop (i + 1)) m' (dacc ++ [y]) else none
                    | some (none, m') => Q.lcLoop (.tp is) tt te (Q.wipeE env vs) (ds.drop (i + 1)) m' dacc
                    | none => none) = some (ys, mf) := hl
                  rw [if_pos hd] at hl
                  cases hl
                · have hl : (match (if Q.dirty c y = true then none else some (some y, m4) : Option (Option Q.D × Mem)) with
                    | some (some y, m') => if dacc.length < Q.most then Q.lcLoop (.tp is) tt te (Q.wipeE env vs) (ds.drop (i + 1)) m' (dacc ++ [y]) else none
                    | some (none, m') => Q.lcLoop (.tp is) tt te (Q.wipeE env vs) (ds.drop (i + 1)) m' dacc
                    | none => none) = some (ys, mf) := hl
                  rw [if_neg hd] at hl
                  have hl : (if dacc.length < Q.most then Q.lcLoop (.tp is) tt te (Q.wipeE env vs) (ds.drop (i + 1)) m4 (dacc ++ [y]) else none) = some (ys, mf) := hl
                  have hd' : Q.dirty c y = false := by simpa using hd
                  have ry := o4.clean hd'
                  by_cases hm : dacc.length < Q.most
                  · rw [if_pos hm] at hl
                    have e4 : H4 D = some (.lst vacc) := s34.keep _ _ hDv fun m => (E'.cn D m).2.2 hDh
                    have hh4 : pl4.hs = D :: pl1.hs := s34.hs.trans hh
                    have hD4 : D ∈ pl4.hs := by rw [hh4]; exact List.mem_cons_self
                    refine ⟨vacc, e4, most_lt (by rw [rr.1]; exact hm), m - 1, by omega, by omega, pl4, m4, vacc ++ [v], dacc ++ [y], hh4, ?_, ?_, upd_same, ?_, hl⟩
                    · exact (back (μ3 := m4) E5 s34).write hD4 nd
                    · have so := outer s34
                      refine ⟨fun a o e n => upd_keep (fun z => by rw [z, hD] at e; cases e) (so.keep a o e n), fun a h => upd_dom (so.dom a h), so.hs, so.cs, so.mu⟩
                    · have r4 := rr.sub s34.cold
                      exact (r4.append (Reps.cons ry Reps.nil)).sub (upd_cold (.inl hD4))
                  · rw [if_neg hm] at hl; cases hl
    · left
      have hi' : i = ds.length := by omega
      rw [hi', List.drop_length, Q.lcLoop] at hl
      cases hl
      have E2 : EnvOk G fm (pl'.at pl1.hs) (env.wm mf) [] σ H' := by
        refine E1.ext (m := mf) s' (fun a m => (E'.cn a m).2.1) ?_
        exact E'.mem.sub ((unhide_sub hh).trans but_sub) rfl fun a _ o e => e
      refine ⟨⟨hfz', by omega⟩, fin (pl'.at pl1.hs) _ _ E2 s' ⟨D, rfl, hD, ?_, ⟨vacc, hDv, rr.sub (unhide_sub hh)⟩, E'.mem.sub (unhide_sub hh) rfl fun a _ o e => e⟩⟩
      exact ⟨.inr (.inl (E1.newH0 hD)), E1.newHs hD, fun m => (E'.cn D m).2.2 hDh⟩
end
section
variable {X : Cx} {W : WX} {G : Cfg} {tt : Q.XB} {te ea : Q.X} {is : List Nat}
theorem lcd_reads {vs : List Nat} {σ : L2.St} {H : Hp} {P : VK} (hsub : ∀ i ∈ is, i ∈ vs) (h : tE G W (Q.lcd vs ea is tt te) σ H P) : tLockE (tLc (iKeys (tE G noW ea)) (tGk G is) (tT G noW tt) (tE G noW te) vs) σ H P := by
  obtain ⟨fm, pl, env, E, acc⟩ := h
  have acc : AccR G W fm pl env σ H (Q.lcdR vs ea is tt te env (ea env)) fun _ _ _ _ v H' => P v H' := acc
  cases q : ea env with
  | exc k fs m => rw [q] at acc; exact acc.elim
  | bad => rw [q] at acc; exact acc.elim
  | ok x c m =>
    rw [q] at acc
    cases x with
    | ptr n =>
      have acc : AccR G W fm pl env σ H (Q.lcdS vs ea is tt te env n (Q.at_ env.mem n)) fun _ _ _ _ v H' => P v H' := acc
      cases z : Q.at_ env.mem n with
      | none => rw [z] at acc; exact acc.elim
      | some x0 =>
        rw [z] at acc
        cases x0 with
        | dtk kvs =>
          have acc : AccR G W fm pl env σ H (Q.lcdU vs is tt te env n kvs (ea (env.wm (env.mem.set n none)))) fun _ _ _ _ v H' => P v H' := acc
          obtain ⟨d, hmu, hdc, ws, hd, rT⟩ := E.mem.cell n _ (get_mem z)
          refine ⟨d, .dT ws, hd, trivial, fun od => ?_⟩
          have E1 := E.take (o := .frz od (.dT ws)) (get_mem z) hmu hdc
          refine ⟨fm, _, _, E1, ?_⟩
          cases q1 : ea (env.wm (env.mem.set n none)) with
          | exc k fs m => rw [q1] at acc; exact acc.elim
          | bad => rw [q1] at acc; exact acc.elim
          | ok y c1 m1 =>
            rw [q1] at acc
            cases y with
            | ptr k =>
              have acc : AccR G W fm pl env σ H (if k = n then Q.lcdT n (.dtk kvs) (Q.lcLoop (.tp is) tt te (Q.wipeE env vs) (kvs.map fun kv => Q.tupK kv.1) m1 []) else .bad) fun _ _ _ _ v H' => P v H' := acc
              by_cases hk : k = n
              · subst hk
                rw [if_pos rfl] at acc
                cases q2 : Q.lcLoop (.tp is) tt te (Q.wipeE env vs) (kvs.map fun kv => Q.tupK kv.1) m1 [] with
                | none => rw [q2] at acc; exact acc.elim
                | some yy =>
                  obtain ⟨ys, mf⟩ := yy
                  rw [q2] at acc
                  have acc : ∀ pl' v H', EnvOk G fm pl' (env.wm (mf.set k (some (.dtk kvs)))) [] σ H' → Ext pl H pl' H' → FOk G fm pl' (mf.set k (some (.dtk kvs))) H H' v (.lst ys) .fresh → P v H' := acc
                  intro pl1 v H1 E2 s1 o1
                  have hfz0 : upd H d (.frz od (.dT ws)) d = some (.frz od (.dT ws)) := upd_same
                  have dn : d ∉ (pl.off d).cs := fun m => (off_mem.mp m).2 rfl
                  have hfz : H1 d = some (.frz od (.dT ws)) := s1.keep _ _ hfz0 dn
                  have dn1 : d ∉ pl1.cs := fun m => (s1.cs d m).elim dn fun z => by rw [hfz0] at z; cases z
                  obtain ⟨a, ev, ha⟩ := o1.anyR.ptr_inv
                  have ha : pl1.mu[k]? = some a := ha
                  have ead : a = d := Option.some.inj (ha.symm.trans (pre_get s1.mu hmu))
                  subst ead
                  subst ev
                  refine ⟨a, od, rfl, .inr ⟨ws, hfz, ?_⟩⟩
                  refine lcd_loop (QQ := fun v H' => H' a = some (.frz od (.dT ws)) ∧ P v (upd H' a (.dT ws))) hsub (m0 := m1) (env := env) E2 hfz dn1 rT.1 (fun i w x e f => (rT.2 i w x e f).1) q2 fun pl' v H' E3 s3 o3 => ?_
                  have sE := s1.trans s3
                  have hfz3 : H' a = some (.frz od (.dT ws)) := s3.keep _ _ hfz dn1
                  have dn3 : a ∉ pl'.cs := fun m => (s3.cs a m).elim dn1 fun z => by rw [hfz] at z; cases z
                  refine ⟨hfz3, ?_⟩
                  have hk0 : k < env.mem.length := (List.getElem?_eq_some_iff.mp (get_mem z)).1
                  -- the places with the dict among them again
                  have X3 : Ext pl H ⟨pl'.hs, a :: pl'.cs, pl'.mu⟩ (upd H' a (.dT ws)) := ⟨fun b o e nb => by
                    have hb : b ≠ a := fun zz => nb (zz ▸ hdc)
                    exact upd_keep hb (sE.keep b o (upd_keep hb e) fun m => nb (off_mem.mp m).1), fun b hb => upd_dom (sE.dom b (upd_dom hb)), sE.hs, fun b m => by
                    rcases List.mem_cons.mp m with rfl | m
                    · exact .inl hdc
                    · rcases sE.cs b m with m | m
                      · exact .inl (off_mem.mp m).1
                      · right
                        by_cases hb : b = a
                        · subst hb; exact absurd ‹_› dn3
                        · rw [upd_ne hb] at m; exact m, sE.mu⟩
                  have sub3 : Sub ((Cold fm pl').but a) H' (Cold fm ⟨pl'.hs, a :: pl'.cs, pl'.mu⟩) (upd H' a (.dT ws)) := ⟨fun b o h e => ⟨⟨h.1.1, h.1.2.1, fun m => (List.mem_cons.mp m).elim h.2 h.1.2.2⟩, upd_keep h.2 e⟩, List.prefix_refl _⟩
                  have back : ∀ {A : Reg} {B : Reg}, Sub (A.but a) H' B (upd H' a (.dT ws)) → B.mu = A.mu → A.mu = pl'.mu → (RepT G B (upd H' a (.dT ws)) ws kvs) → MemOk G A pl'.cs H' mf → MemOk G B (a :: pl'.cs) (upd H' a (.dT ws)) (mf.set k (some (.dtk kvs))) := fun {A B} sb em ea rt M => by
                    have hl : pl'.mu.length = mf.length := by rw [← ea]; exact M.len
                    have hk1 : k < mf.length := by
                      have h0 : pl.mu.length = env.mem.length := E.mem.len
                      have := sE.mu.length_le
                      have h1 : (pl.off a).mu = pl.mu := rfl
                      rw [h1] at this
                      omega
                    have hmk : pl'.mu[k]? = some a := pre_get (show pl.mu <+: pl'.mu from sE.mu) hmu
                    have old : ∀ {j : Nat} {x : D}, (mf.set k (some (.dtk kvs)))[j]? = some (some x) → (j = k ∧ x = .dtk kvs) ∨ (j ≠ k ∧ mf[j]? = some (some x)) := fun {j x} e => by
                      rcases get_set e with ⟨rfl, _, zz⟩ | ⟨hne, e⟩
                      · cases zz; exact .inl ⟨rfl, rfl⟩
                      · exact .inr ⟨hne, e⟩
                    refine ⟨?_, fun j x e => ?_, fun j i x y q h1 h2 h3 h4 => ?_⟩
                    · rw [em, ea, List.length_set]; exact hl
                    · rcases old e with ⟨rfl, rfl⟩ | ⟨hne, e⟩
                      · exact ⟨a, by rw [em, ea]; exact hmk, List.mem_cons_self, ws, upd_same, rt⟩
                      · obtain ⟨q, g1, g2, g3⟩ := M.cell j x e
                        exact ⟨q, by rw [em]; exact g1, List.mem_cons_of_mem _ g2, (g3.avoid hfz3).sub sb fun o e => upd_keep (fun zz => dn3 (zz ▸ g2)) e⟩
                    · rw [em] at h3 h4
                      have cellq : ∀ {j : Nat} {x : D}, mf[j]? = some (some x) → A.mu[j]? = some q → q ∈ pl'.cs := fun {j x} e h => by
                        obtain ⟨q', g1, g2, _⟩ := M.cell j x e
                        rw [h] at g1; cases g1; exact g2
                      rcases old h1 with ⟨rfl, _⟩ | ⟨n1, e1⟩ <;> rcases old h2 with ⟨rfl, _⟩ | ⟨n2, e2⟩
                      · rfl
                      · rw [ea, hmk] at h3; cases h3; exact absurd (cellq e2 h4) dn3
                      · rw [ea, hmk] at h4; cases h4; exact absurd (cellq e1 h3) dn3
                      · exact M.inj j i x y q e1 e2 h3 h4
                  have rT3 : RepT G (Cold fm ⟨pl'.hs, a :: pl'.cs, pl'.mu⟩) (upd H' a (.dT ws)) ws kvs := rT.sub X3.cold
                  have E4 : EnvOk G fm ⟨pl'.hs, a :: pl'.cs, pl'.mu⟩ (env.wm (mf.set k (some (.dtk kvs)))) [] σ (upd H' a (.dT ws)) :=
                    E.ext X3 (fun b m => (List.mem_cons.mp m).elim (fun zz => by rw [zz]; exact Lv.of upd_same (fun _ z => nomatch z)) fun m => upd_lv (fun _ z => nomatch z) (E3.cn b m).2.1) (back sub3 rfl rfl rT3 E3.mem)
                  obtain ⟨p, rfl, hp, hc, K, M⟩ := o3
                  have hpa : p ≠ a := fun zz => by rw [zz, hfz] at hp; cases hp
                  have hp0 : upd H a (.frz od (.dT ws)) p = none := s1.free hp
                  have hp1 : H p = none := by rw [upd_ne hpa] at hp0; exact hp0
                  refine acc _ _ _ E4 X3 ⟨p, rfl, hp1, ⟨hc.1, hc.2.1, fun m => (List.mem_cons.mp m).elim hpa hc.2.2⟩, ?_, ?_⟩
                  · exact (K.avoid hfz3).sub ⟨fun b o h e => ⟨⟨(sub3.go b o ⟨h.1.1, h.2⟩ e).1, h.1.2⟩, (sub3.go b o ⟨h.1.1, h.2⟩ e).2⟩, List.prefix_refl _⟩ fun o e => upd_keep hpa e
                  · refine back (A := (Cold fm pl').but p) (B := (Cold fm ⟨pl'.hs, a :: pl'.cs, pl'.mu⟩).but p) ⟨fun b o h e => ⟨⟨(sub3.go b o ⟨h.1.1, h.2⟩ e).1, h.1.2⟩, (sub3.go b o ⟨h.1.1, h.2⟩ e).2⟩, List.prefix_refl _⟩ rfl rfl ?_ M
                    exact rT.sub ⟨fun b o h e => ⟨⟨(X3.cold (fm := fm) |>.go b o h e).1, fun zz => by rw [zz, hp1] at e; cases e⟩, (X3.cold (fm := fm) |>.go b o h e).2⟩, X3.mu⟩
              · rw [if_neg hk] at acc; exact acc.elim
            | _ => exact acc.elim
        | _ => exact acc.elim
    | _ => exact acc.elim
end
section
variable {X : Cx} {W : WX} {G : Cfg} {elt iter : Expr} {ifs : List Expr} {scope : Scope} {own : List (Str × Nat)} {pos spos py : Pos} {tt : Q.XB} {te ea : Q.X} {vs is : List Nat} {es : List Expr} {kk : Nat}
theorem q_lcd (hc : X.calm = true) (hN : X.N.Nodup) (hi : PE X iter (tE G noW ea)) (ok : BlkOk X.N X.env.scope scope own)
    (hg : ∀ (s : Shared) (H : Hp) (C : Addr) (cl : List (Str × Addr)) (fp : List Addr), PG (X.blk s H scope (compEnvC scope cl C X.env) fp) (.Tuple es kk py) (tGk G is))
    (ht : ∀ (s : Shared) (H : Hp) (C : Addr) (cl : List (Str × Addr)) (fp : List Addr), PTs (X.blk s H scope (compEnvC scope cl C X.env) fp) ifs (tT G noW tt))
    (he : ∀ (s : Shared) (H : Hp) (C : Addr) (cl : List (Str × Addr)) (fp : List Addr), PE (X.blk s H scope (compEnvC scope cl C X.env) fp) elt (tE G noW te))
    (hvs : own.map (·.2) = vs := by rfl) (hsub : ∀ i ∈ is, i ∈ vs := by decide) (hs : ∀ x, foldedSetIterable iter X.env x = pure x := by intro _; rfl) :
    PE X (.ListComp elt [⟨.Tuple es kk py, iter, ifs, 0⟩] scope pos) (tE G W (Q.lcd vs ea is tt te)) := by
  subst hvs
  exact (pe_lock (pe_lc hc hN (pi_keys hi) ok hg ht he hs)).conv fun σ H P h => lcd_reads hsub h
end
end QW

set_option Elab.async false
set_option linter.all false
set_option maxRecDepth 100000
set_option maxHeartbeats 4000000
namespace QW
open PySem PySem.Spec PyProof.Rows L2
open Q (D R RA RB Ctl Cl S Mem Pat)
/-! ### an __init__ that works on the new object as a place of the memory -/
section
variable {G : Cfg} {P : VK} {E : XK} {c n : Nat} {g : Q.F} {vs : List V} {H : Hp}
theorem resL_at {k : Nat} {m : Mem} : ∀ {fs es : List D}, Q.resL k m fs = some es → es.length = fs.length ∧ ∀ (i : Nat) f, fs[i]? = some f → ∃ e, es[i]? = some e ∧ Q.resO k m f = some e
  | [], es, h => by cases h; exact ⟨rfl, fun i f z => by simp at z⟩
  | x :: r, es, h => by
    have h : ((Q.resO k m x).bind fun y => (Q.resL k m r).map (y :: ·)) = some es := h
    cases q : Q.resO k m x with
    | none => rw [q] at h; cases h
    | some y =>
      rw [q] at h
      cases q2 : Q.resL k m r with
      | none => rw [q2] at h; cases h
      | some ys =>
        rw [q2] at h
        cases h
        obtain ⟨h1, h2⟩ := resL_at q2
        refine ⟨by simp [h1], fun i f z => ?_⟩
        cases i with
        | zero => simp at z; subst z; exact ⟨y, rfl, q⟩
        | succ i => exact h2 i f (by simpa using z)
def AfI (G : Cfg) (A : Reg) (H : Hp) (cs : List Addr) (x : Addr) (c : Nat) (P : VK) (E : XK) : R → Prop
  | .ok d _ m' => ∃ fs, d = .obj c fs ∧ ∀ H' cs' mu', After (some x) A.mu cs H cs' mu' H' → MemOk G ((outR (A.kept true) H cs cs' mu').but x) cs' H' m' → Con G ((outR (A.kept true) H cs cs' mu').but x) H' x d → P .non H'
  | .exc k fs m' => ∀ cls dd H' cs' mu', After (some x) A.mu cs H cs' mu' H' → MemOk G ((outR (A.kept true) H cs cs' mu').but x) cs' H' m' → RepX G ((outR A H cs cs' mu').but x) (newR H cs') H' cls dd k fs → E cls dd H'
  | .bad => False
open Classical in
theorem spI_spF (h : spI G c n true (Q.initF c g) vs H P E) : spF G (n + 1) g vs H P E := by
  obtain ⟨x, dx, ws, A, cs, m, ds, rfl, hn, hx, hA, hxc, hdom, wd, hc, r, h⟩ := h
  have h : AfI G A H cs x c P E (Q.initR c m (g (.ptr m.length :: ds) (m ++ [some (.obj c [])]))) := h
  have l0 : A.mu.length = m.length := wd.mem.len
  have hx0 : Lv H x := Lv.of hx fun _ z => nomatch z
  have s0 : Sub (A.kept true) H (⟨A.p, A.mu ++ [x]⟩ : Reg) H := ⟨fun a o h e => ⟨h.2, e⟩, ⟨[x], rfl⟩⟩
  have s1 : Sub A H (⟨A.p, A.mu ++ [x]⟩ : Reg) H := ⟨fun a o h e => ⟨h, e⟩, ⟨[x], rfl⟩⟩
  have mux : (A.mu ++ [x])[m.length]? = some x := by rw [List.getElem?_append_right (by omega), l0, Nat.sub_self]; rfl
  have muo : ∀ {k : Nat}, k < m.length → (A.mu ++ [x])[k]? = A.mu[k]? := fun {k} h => List.getElem?_append_left (by omega)
  refine ⟨⟨A.p, A.mu ++ [x]⟩, x :: cs, m ++ [some (.obj c [])], .ptr m.length :: ds, by simp [hn], ⟨⟨?_, ?_, ?_⟩, fun a ha => ?_⟩, Reps.cons (Rep.ptr mux) (r.sub s1), ?_⟩
  · show (A.mu ++ [x]).length = _
    rw [List.length_append, List.length_append, l0]; rfl
  · intro k d e
    by_cases hk : k < m.length
    · rw [List.getElem?_append_left hk] at e
      obtain ⟨p, g1, g2, g3⟩ := wd.mem.cell k d e
      exact ⟨p, (muo hk).trans g1, List.mem_cons_of_mem _ g2, g3.sub s0 fun o e => e⟩
    · have hk2 := (List.getElem?_eq_some_iff.mp e).1
      rw [List.length_append, List.length_singleton] at hk2
      have hk3 : k = m.length := by omega
      subst hk3
      rw [List.getElem?_append_right (Nat.le_refl _), Nat.sub_self] at e
      cases e
      exact ⟨x, mux, List.mem_cons_self, dx, [], by rw [hx]; simp, Reps.nil⟩
  · intro j k d e p e1 e2 m1 m2
    have old : ∀ {j : Nat} {d : D}, j < m.length → (m ++ [some (.obj c [])])[j]? = some (some d) → (A.mu ++ [x])[j]? = some x → False := fun {j d} hj e h => by
      rw [List.getElem?_append_left hj] at e
      rw [muo hj] at h
      obtain ⟨p, g1, g2, g3⟩ := wd.mem.cell j d e
      have g1 : A.mu[j]? = some p := g1
      rw [h] at g1; cases g1; exact hxc g2
    have top : ∀ {j : Nat} {d : D}, ¬ j < m.length → (m ++ [some (.obj c [])])[j]? = some (some d) → j = m.length := fun {j d} hj e => by
      have h2 := (List.getElem?_eq_some_iff.mp e).1
      rw [List.length_append, List.length_singleton] at h2
      omega
    have m1 : (A.mu ++ [x])[j]? = some p := m1
    have m2 : (A.mu ++ [x])[k]? = some p := m2
    by_cases hj : j < m.length <;> by_cases hk : k < m.length
    · rw [muo hj] at m1
      rw [muo hk] at m2
      rw [List.getElem?_append_left hj] at e1
      rw [List.getElem?_append_left hk] at e2
      exact wd.mem.inj j k d e p e1 e2 m1 m2
    · have := top hk e2
      subst this
      rw [mux] at m2; cases m2
      exact (old hj e1 m1).elim
    · have := top hj e1
      subst this
      rw [mux] at m1; cases m1
      exact (old hk e2 m2).elim
    · rw [top hj e1, top hk e2]
  · rcases List.mem_cons.mp ha with rfl | ha
    · exact ⟨hA, hx0⟩
    · exact ⟨hc a ha, (wd.cs a ha).2⟩
  -- what both ends have in common
  have pre : ∀ {mu' : List Addr}, A.mu ++ [x] <+: mu' → A.mu <+: mu' := fun h => List.IsPrefix.trans ⟨[x], rfl⟩ h
  have both : ∀ {m' : Mem} {H' : Hp} {cs' mu' : List Addr} {d0 : D}, Q.Kept m m' → After none (A.mu ++ [x]) (x :: cs) H cs' mu' H' → MemOk G (outR ⟨A.p, A.mu ++ [x]⟩ H (x :: cs) cs' mu') cs' H' m' → Q.at_ m' m.length = some d0 →
      ∃ cs'' : List Addr, (∀ a ∈ cs'', a ∈ cs') ∧ x ∉ cs'' ∧ After (some x) A.mu cs H cs'' A.mu H' ∧ MemOk G ((outR (A.kept true) H cs cs'' A.mu).but x) cs'' H' (m'.take m.length) ∧ (∀ j d p, m.length ≤ j → m'[j]? = some (some d) → mu'[j]? = some p → p ∉ cs'') ∧ x ∈ cs' ∧
      Con G (outR ⟨A.p, A.mu ++ [x]⟩ H (x :: cs) cs' mu') H' x d0 := by
    intro m' H' cs' mu' d0 K F M z
    have hm : ∀ j, j < m.length → mu'[j]? = A.mu[j]? := fun j hj => (pre_at F.mu j (by rw [List.length_append]; omega)).trans (muo hj)
    have hmx : mu'[m.length]? = some x := (pre_at F.mu m.length (by rw [List.length_append, l0]; simp)).trans mux
    obtain ⟨p0, e0, hp0, K0⟩ := M.cell m.length _ (get_mem z)
    have e0 : mu'[m.length]? = some p0 := e0
    have ep : p0 = x := Option.some.inj (e0.symm.trans hmx)
    subst ep
    have ml : ∀ a, a ∈ cs'.filter (fun a => decide (∃ j d, j < m.length ∧ m'[j]? = some (some d) ∧ mu'[j]? = some a)) ↔ a ∈ cs' ∧ ∃ j d, j < m.length ∧ m'[j]? = some (some d) ∧ mu'[j]? = some a := fun a => by
      rw [List.mem_filter, decide_eq_true_iff]
    refine ⟨cs'.filter fun a => decide (∃ j d, j < m.length ∧ m'[j]? = some (some d) ∧ mu'[j]? = some a), fun a h => ((ml a).mp h).1, fun h => ?_, ?_, ?_, fun j d p hj e h hp => ?_, hp0, K0⟩
    · obtain ⟨_, j, d, hj, e, h⟩ := (ml _).mp h
      have := M.inj j m.length d d0 p0 e (get_mem z) h hmx
      omega
    · refine ⟨fun a o e nc nx => F.keep a o e (fun h => (List.mem_cons.mp h).elim (fun q => nx (by rw [q])) nc) (fun q => nomatch q), F.dom, fun a h => ?_, fun a h => F.live a ((ml a).mp h).1, List.prefix_refl _⟩
      obtain ⟨h1, j, d, hj, e, hmj⟩ := (ml _).mp h
      rcases F.cs a h1 with q | q
      · rcases List.mem_cons.mp q with rfl | q
        · have := M.inj j m.length d d0 a e (get_mem z) hmj hmx
          omega
        · exact .inl q
      · exact .inr q
    · have cut := mem_cut (A := A.kept true) (B := outR ⟨A.p, A.mu ++ [p0]⟩ H (p0 :: cs) cs' mu') wd.mem M (pre F.mu) K
      have wid : Sub (⟨(outR ⟨A.p, A.mu ++ [p0]⟩ H (p0 :: cs) cs' mu').p, A.mu⟩ : Reg) H' ((outR (A.kept true) H cs (cs'.filter fun a => decide (∃ j d, j < m.length ∧ m'[j]? = some (some d) ∧ mu'[j]? = some a)) A.mu).but p0) H' := ⟨fun a o h e => by
        have ax : a ≠ p0 := fun q => h.2 (q ▸ hp0)
        refine ⟨⟨⟨?_, fun q => h.2 ((ml a).mp q).1⟩, ax⟩, e⟩
        rcases h.1 with (q | q) | q | q
        · exact .inl (.inl ⟨rfl, q⟩)
        · exact .inl (.inr q)
        · exact .inr (.inl q)
        · exact .inr (.inr ((List.mem_cons.mp q).elim (fun q => absurd q ax) id)), List.prefix_refl _⟩
      refine ⟨cut.len, fun i y ei => ?_, fun a b y y2 p3 ea eb => cut.inj a b y y2 p3 ea eb⟩
      obtain ⟨p2, g1, g2, g3⟩ := cut.cell i y ei
      have hi : i < m.length := by
        have := (List.getElem?_eq_some_iff.mp ei).1
        rw [List.length_take] at this; omega
      rw [List.getElem?_take_of_lt hi] at ei
      exact ⟨p2, g1, (ml p2).mpr ⟨g2, i, y, hi, ei, (hm i hi).trans g1⟩, g3.sub wid fun o z => z⟩
    · obtain ⟨_, j2, d2, hj2, e2, h2⟩ := (ml _).mp hp
      have := M.inj j2 j d2 d p e2 e h2 h
      omega
  have wid2 : ∀ {B : Reg} {H' : Hp} {cs' mu' cs'' : List Addr}, (∀ a, A.p a → B.p a) → (∀ a ∈ cs'', a ∈ cs') → x ∈ cs' → Sub (⟨(outR ⟨A.p, A.mu ++ [x]⟩ H (x :: cs) cs' mu').p, A.mu⟩ : Reg) H' ((outR B H cs cs'' A.mu).but x) H' := fun {B H' cs' mu' cs''} hB hs hxs => ⟨fun a o h e => by
    have ax : a ≠ x := fun q => h.2 (q ▸ hxs)
    refine ⟨⟨⟨?_, fun q => h.2 (hs a q)⟩, ax⟩, e⟩
    rcases h.1 with (q | q) | q | q
    · exact .inl (.inl (hB a q))
    · exact .inl (.inr q)
    · exact .inr (.inl q)
    · exact .inr (.inr ((List.mem_cons.mp q).elim (fun q => absurd q ax) id)), List.prefix_refl _⟩
  cases q : g (.ptr m.length :: ds) (m ++ [some (.obj c [])]) with
  | bad => rw [q] at h; exact h
  | exc k fs m' =>
    rw [q] at h
    have h : AfI G A H cs x c P E (Q.trM m m' (if Q.D.lows m.length fs = true ∧ (Q.at_ m' m.length).isSome = true then .exc k fs (m'.take m.length) else .bad)) := h
    obtain ⟨K, h⟩ := trM_ok h id
    by_cases lw : Q.D.lows m.length fs = true ∧ (Q.at_ m' m.length).isSome = true
    · rw [if_pos lw] at h
      intro cls dd H' cs' mu' F M xx
      obtain ⟨d0, z⟩ := Option.isSome_iff_exists.mp lw.2
      obtain ⟨cs'', hs, hxs, F2, M2, _, hxc', _⟩ := both K F M z
      have hm : ∀ j, j < m.length → (outR ⟨A.p, A.mu ++ [x]⟩ H (x :: cs) cs' mu').mu[j]? = A.mu[j]? := fun j hj => (pre_at F.mu j (by rw [List.length_append]; omega)).trans (muo hj)
      have xl := repX_low (B := outR ⟨A.p, A.mu ++ [x]⟩ H (x :: cs) cs' mu') hm xx lw.1
      exact h cls dd H' cs'' A.mu F2 M2 (xl.sub (wid2 (B := A) (fun a q => q) hs hxc') fun a o hh e => ⟨⟨hh.1, fun z => hh.2 (hs a z)⟩, e⟩)
    · rw [if_neg lw] at h; exact h.elim
  | ok d cl m' =>
    rw [q] at h
    cases d with
    | non =>
      have h : AfI G A H cs x c P E (Q.trM m m' (Q.resI c m.length m' (Q.at_ m' m.length))) := h
      obtain ⟨K, h⟩ := trM_ok h id
      cases z : Q.at_ m' m.length with
      | none => rw [z] at h; exact h.elim
      | some d0 =>
        rw [z] at h
        cases d0 with
        | obj k fs =>
          have h : AfI G A H cs x c P E (if k = c then Q.resJ c m.length m' (Q.resL m.length m' fs) else .bad) := h
          by_cases hk : k = c
          · subst hk
            rw [if_pos rfl] at h
            cases z2 : Q.resL m.length m' fs with
            | none => rw [z2] at h; exact h.elim
            | some es =>
              rw [z2] at h
              obtain ⟨fs2, efs, h⟩ := (h : AfI G A H cs x k P E (.ok (.obj k es) .fresh (m'.take m.length)))
              intro v H' cs' mu' F M rt
              have ev : v = .non := by
                cases cl with
                | fresh => obtain ⟨p, _, _, _, zz, _⟩ := rt; exact zz.elim
                | cold => exact Rep.non_inv rt
                | hot => exact Rep.non_inv rt
                | taint => exact Rep.non_inv rt
              subst ev
              obtain ⟨cs'', hs, hxs, F2, M2, gone, hxc', K0⟩ := both K F M z
              have hm : ∀ j, j < m.length → (outR ⟨A.p, A.mu ++ [x]⟩ H (x :: cs) cs' mu').mu[j]? = A.mu[j]? := fun j hj => (pre_at F.mu j (by rw [List.length_append]; omega)).trans (muo hj)
              have hmx : mu'[m.length]? = some x := (pre_at F.mu m.length (by rw [List.length_append, l0]; simp)).trans mux
              refine h H' cs'' A.mu F2 M2 ?_
              obtain ⟨dx', us, e1, rr⟩ := K0
              obtain ⟨hl, hres⟩ := resL_at z2
              have wid := wid2 (B := A.kept true) (H' := H') (mu' := mu') (fun a q => ⟨rfl, q⟩) hs hxc'
              refine ⟨dx', us, e1, by rw [hl]; exact rr.1, fun i u e a1 a2 => ?_⟩
              have hi : i < fs.length := by rw [← hl]; exact (List.getElem?_eq_some_iff.mp a2).1
              obtain ⟨e', b1, b2⟩ := hres i _ (List.getElem?_eq_getElem hi)
              rw [a2] at b1
              cases b1
              have ru := rr.2 i u _ a1 (List.getElem?_eq_getElem hi)
              have low : ∀ {f : D}, Rep G (outR ⟨A.p, A.mu ++ [x]⟩ H (x :: cs) cs' mu') H' u f → f.low m.length = true → Rep G ((outR (A.kept true) H cs cs'' A.mu).but x) H' u f := fun {f} r l => (low_mu (A := outR ⟨A.p, A.mu ++ [x]⟩ H (x :: cs) cs' mu') hm r l).sub wid
              generalize fs[i] = f at ru b2
              by_cases hp : ∃ j, f = .ptr j
              · obtain ⟨j, rfl⟩ := hp
                have b2 : (if m.length < j then (Q.at_ m' j).bind (fun d => if Q.D.low m.length d = true then some d else none) else if j < m.length then some (.ptr j) else none) = some e := b2
                by_cases hj : m.length < j
                · rw [if_pos hj] at b2
                  cases z3 : Q.at_ m' j with
                  | none => rw [z3] at b2; cases b2
                  | some d1 =>
                    rw [z3] at b2
                    have b2 : (if Q.D.low m.length d1 = true then some d1 else none) = some e := b2
                    by_cases lw : Q.D.low m.length d1 = true
                    · rw [if_pos lw] at b2
                      cases b2
                      obtain ⟨p, g1, g2, g3⟩ := M.cell j _ (get_mem z3)
                      have g1 : mu'[j]? = some p := g1
                      obtain ⟨a, rfl, ha⟩ := ru.ptr_inv
                      have ha : mu'[j]? = some a := ha
                      have ea : a = p := Option.some.inj (ha.symm.trans g1)
                      subst ea
                      have ax : a ≠ x := fun qq => by
                        have := M.inj j m.length _ _ a (get_mem z3) (get_mem z) g1 (by rw [qq]; exact hmx)
                        omega
                      refine ((low_con (A := outR ⟨A.p, A.mu ++ [x]⟩ H (x :: cs) cs' mu') hm g3 lw).sub wid fun o z => z).rep ⟨⟨?_, gone j _ a (by omega) (get_mem z3) g1⟩, ax⟩
                      rcases F.cs a g2 with q | q
                      · exact .inr (.inr ((List.mem_cons.mp q).elim (fun q => absurd q ax) id))
                      · exact .inr (.inl q)
                    · rw [if_neg lw] at b2; cases b2
                · rw [if_neg hj] at b2
                  by_cases hj2 : j < m.length
                  · rw [if_pos hj2] at b2
                    cases b2
                    exact low ru (by simpa [Q.D.low] using hj2)
                  · rw [if_neg hj2] at b2; cases b2
              · have b2 : (if Q.D.low m.length f = true then some f else none) = some e := by
                  cases f with
                  | ptr j => exact absurd ⟨j, rfl⟩ hp
                  | _ => exact b2
                by_cases lw : Q.D.low m.length f = true
                · rw [if_pos lw] at b2
                  cases b2
                  exact low ru lw
                · rw [if_neg lw] at b2; cases b2
          · rw [if_neg hk] at h; exact h.elim
        | _ => exact h.elim
    | _ => exact h.elim
theorem initP {Pg : Program} {w : PySem.World} {K : PySem.W.Frag} {mg : Str → Option Value} {base : Heap} {CX : CXT} {k : Nat} {f : Addr} {fd : FuncData} {ps : List Str} (F : FnOk Pg w K mg base CX k f fd ps (spF G (n + 1) g)) : FnOk Pg w K mg base CX k f fd ps (spI G c n true (Q.initF c g)) := F.imp fun vs H Q E h => spI_spF h
end
/-! ### C.m(o, ..) -/
section
variable {X : Cx} {W : WX} {G : Cfg} {k n : Nat} {f C : Addr} {fd : FuncData} {ps : List Str} {g : Q.F} {x m : Str} {p1 p2 pos : Pos} {pl : Sem Bool} {e : Expr} {es : List Expr} {ea : Q.XA}
theorem q_clsCall (T : ClsAt X.K C m (.ref f)) (F : FnOk X.prog X.w X.K X.mg X.base (L2.CX X.prog X.w) k f fd ps (spF G n g)) (hr : Room k X.A) (hm : X.mg x = some (.ref C)) (hk : PySem.W.keepIn X.K (.ref f) = true) (hb : Binds X.K fd ps []) (tk : Takes X W) (ha : PA X (e :: es) (tA G W ea))
    (hg : Gl X x := by rfl) (hc : eval (.Call (.Attribute (.Name x p1) m p2) (e :: es) [] pos) X.env = (do let ov ← eval (.Name x p1) X.env; standAt p2.atName; let (f, first) ← holding [ov] (getMethod ov m pl); callWith pos f first (backTo pos (starEach (e :: es) X.env)) (backToKw pos (keywordEach [] X.env))) := by rfl)
    (hdb : (x == ("__debug__" : Str)) = false := by decide) (he : starEach (e :: es) X.env = (false, eval e X.env) :: starEach es X.env := by rfl) (hpl : (backTo pos (starEach es X.env)).any (·.1) = false := by rfl) :
    PE X (.Call (.Attribute (.Name x p1) m p2) (e :: es) [] pos) (tE G W (Q.call n g ea)) :=
  (pe_clsCall T F hr hg hm hk hb (fun σ => passAt tk σ) ha hc hdb he hpl).conv fun σ H P ⟨fm, pl, env, E, acc⟩ => tA_in E (accA_bind acc) fun pl1 ds t m1 vs H1 E1 s1 r1 acc1 => spF_of E1 r1 acc1
end
end QW

set_option Elab.async false
set_option linter.all false
set_option maxRecDepth 100000
set_option maxHeartbeats 4000000
namespace QW
open PySem PySem.Spec PyProof.Rows L2
open Q (D R RA RB Ctl Cl S Mem Pat)
theorem rm1 {k : Nat} {A : Around} (r : Room k A) : A.units + 1 < cLine := by have := r.un; omega
/-! ### sorted(d), d a dict with whole numbers for keys -/
theorem ints_keys : ∀ {us : List Value} {ks : List Int}, us.length = ks.length → (∀ (j : Nat) (v : Value), us[j]? = some v → ∃ (x : Int) (t : Tok), ks[j]? = some x ∧ v = Value.int x t) → IntsAre us ks
  | [], [], _, _ => .nil
  | u :: us, k :: ks, hl, h => by
    obtain ⟨x, t, e1, e2⟩ := h 0 u rfl
    have e1' : k = x := Option.some.inj e1
    subst e1'
    subst e2
    refine .cons _ _ (ints_keys (by simpa using hl) fun j v e => ?_)
    obtain ⟨x, t, a, b⟩ := h (j + 1) v (by simpa using e)
    exact ⟨x, t, by simpa using a, b⟩
  | [], _ :: _, hl, _ => by simp at hl
  | _ :: _, [], hl, _ => by simp at hl
def rSortDI : List V → Hp → VK → Prop := fun xs H Q => ∃ (a : Addr) (kvs : List (Key × V)) (ks : List Int), xs = [.ref a] ∧ Rd H a (.dK kvs) ∧ kvs.map (·.1) = ks.map Sum.inl ∧ ks.length ≤ sizeLine ∧
    ∀ (ys : List Int) p, ys.Perm ks → ys.Pairwise (· ≤ ·) → H p = none → Q (.ref p) (upd H p (.lst (ys.map V.int)))
theorem call_sortedDI {X : Cx} (hcalm : X.calm = true) : CallR X (.builtin "sorted") rSortDI := by
  intro pins s σ H xs us Q I r q
  obtain ⟨a, kvs, ks, ex, hd, hks, h64, q⟩ := q
  subst ex
  obtain ⟨u, eu, rx⟩ := vals1 r
  subst eu
  cases rx
  obtain ⟨z, lo, vs, rel, dd⟩ := dk_rd I.hok hd
  obtain ⟨ep, hat⟩ := dd.dictAt
  have hkeys : vs.map (·.1) = ks.map Sum.inl := rel.keys.symm.trans hks
  have hl : vs.length = ks.length := by
    have e := congrArg List.length hkeys
    rw [List.length_map, List.length_map] at e
    exact e
  have h16 : vs.length ≤ sizeLine := by rw [hl]; exact h64
  refine Calls.call_function_entry PyProof.Rows.kind_sorted PyProof.Rows.plain_sorted PyProof.Rows.entry_sorted (PyProof.Rows.args_sorted1 _) ?_
  unfold Builtin.«sorted»
  refine wpAny_bind (m := checkCount "sorted" 1 1 _) (wpAny_pure ?_)
  refine wpAny_bind (PySem.W.kdu_collect (A := X.A.in1) (PySem.W.kdl_dict (knd := mixKind X.prog X.w) (kvs := vs) (ep := ep) lo) (I.ok.hd hcalm) hat h16 fun h' tk acc hk hacc => ?_)
  have hal : acc.toList.length = ks.length := by rw [Array.length_toList, hacc.1, hl]
  have hS : IntsAre acc.toList ks := ints_keys hal fun j v e => by
    obtain ⟨k, x, e1, e2⟩ := hacc.2 j v (by rw [← Array.getElem?_toList]; exact e)
    have e3 : (vs.map (·.1))[j]? = some k := by rw [List.getElem?_map, e1]; all_goals rfl
    rw [hkeys, List.getElem?_map] at e3
    cases e4 : ks[j]? with
    | none => rw [e4] at e3; cases e3
    | some y =>
      rw [e4] at e3
      have e5 : Sum.inl y = k := Option.some.inj e3
      subst e5
      have e2 : keyIs (Sum.inl y) v = true := e2
      rcases keyIs_shape e2 with ⟨i, t, ek, ev⟩ | ⟨zz, t, ek, ev⟩
      · cases ek; exact ⟨y, t, rfl, ev⟩
      · cases ek
  have I1 : Inv X pins σ H { s with heap := h', toks := tk } := I.kept hk
  refine wpAny_bind (wpAny_newList ?_ (by rw [hal]; exact h64))
  have hoL : (h'.push (seqObj "list" acc.toList.toArray 0)).get? h'.objs.size = some (seqObj "list" acc.toList.toArray 0) := Heap.get?_push_size _ rfl
  show wpAny _ _ _ _ _ { s with heap := h'.push (seqObj "list" acc.toList.toArray 0), toks := tk }
  refine wpAny_bind (wpAny_holding (wpAny_call_entry PyProof.Rows.slot_list_sort ⟨_, hoL, rfl⟩ PyProof.Rows.entry_list_sort
    (SrtO.list_sort_ord SrtO.swo_int hoL (by rw [hal]; exact h64) (fun h2 => SrtO.ints_sortable hS h2) fun out h1 h2 => ⟨_, rfl, ?_⟩) (PyProof.Rows.args_list_sort _)))
  obtain ⟨k1, k2, k3⟩ := SrtO.ints_out hS h1 h2
  obtain ⟨e', he'⟩ := PyProof.Rows.sortedHeap_at (vs := acc.toList) (out := out.toArray) hoL
  have hlen : ((out.map SrtO.iv).map V.int).length ≤ sizeLine := by
    rw [List.length_map, k2.length_eq]
    exact h64
  refine wpAny_pure ⟨_, rfl, .ref h'.objs.size, upd H h'.objs.size (.lst ((out.map SrtO.iv).map V.int)), I1.laid (t' := tk) (fun b u e => ?_) (Nat.le_refl _)
    (show ObjOk X.prog X.w _ _ _ (.lst ((out.map SrtO.iv).map V.int)) from ⟨hlen, out, e', vals_of_ints k1, he'⟩), rfl, q _ _ k2 k3 (I1.hok.fresh (Nat.le_refl _))⟩
  have hb : b < h'.objs.size := Heap.lt_size e
  rw [PyProof.Rows.sortedHeap_old (Nat.ne_of_lt hb) (by rw [size_push']; exact Nat.lt_succ_of_lt hb)]
  exact Heap.get?_push_of_some _ e
theorem repI_keys {G : Cfg} {A : Reg} {H : Hp} : ∀ {ws : List (Key × V)} {kvs : List (Int × D)}, RepI G A H ws kvs → ws.map (·.1) = (kvs.map (·.1)).map Sum.inl
  | [], [], _ => rfl
  | [], _ :: _, h => by have := h.1; simp at this
  | _ :: _, [], h => by have := h.1; simp at this
  | w :: ws, x :: kvs, h => by
    have h1 := (h.2 0 w x rfl rfl).1
    rw [List.map_cons, List.map_cons, List.map_cons, h1, repI_keys (ws := ws) (kvs := kvs) ⟨by simpa using h.1, fun i a b e f => h.2 (i + 1) a b (by simpa using e) (by simpa using f)⟩]
section
variable {X : Cx} {W : WX} {G : Cfg} {a : Expr} {ea : Q.X} {p pos : Pos}
theorem q_sortedD (hc : X.calm = true) (hm : X.mg "sorted" = none) (ha : PE X a (tE G W ea)) (hg : Gl X "sorted" := by rfl)
    (he : starEach (a :: []) X.env = (false, eval a X.env) :: starEach [] X.env := by rfl) (hpl : (backTo pos (starEach [] X.env)).any (·.1) = false := by rfl) :
    PE X (.Call (.Name "sorted" p) [a] [] pos) (tE G W (Q.sortedD ea)) := by
  refine (pe_callB (call_sortedDI hc) hg hm (by decide +kernel) (pa_cons ha pa_nil he) (by decide) (by decide) he hpl).conv fun σ H P ⟨fm, pl, env, E, acc⟩ => tE_in E (acc_bind acc) fun pl1 d c m1 v H1 E1 s1 o1 acc1 => ?_
  obtain ⟨y, c', l, acc2⟩ := acc_rd E1 (o1.at (Ext.refl _)) acc1
  cases y with
  | dik kvs =>
    have acc2 : AccR G W fm pl1 (env.wm m1) σ H1 (if kvs.length ≤ Q.most then .ok (.lst ((Q.sortI (kvs.map (·.1))).map D.int)) .fresh m1 else .bad) fun _ _ _ _ v H' => P v H' := acc2
    by_cases q : kvs.length ≤ Q.most
    · rw [if_pos q] at acc2
      obtain ⟨p, rfl, ws, hd, r⟩ := l.con rfl
      refine ⟨p, ws, kvs.map (·.1), rfl, .inl hd, repI_keys r, by rw [List.length_map]; exact Nat.le_trans q (by rw [sizeLine_eq]; decide), fun ns' t pm pw ht => ?_⟩
      rw [sortI_of pm pw]
      exact acc2 _ _ _ (E1.later (same_new ht)) (ext_new ht) (fresh_lst E1 (reps_ints _) ht)
    · rw [if_neg q] at acc2; exact acc2.elim
  | _ => exact acc2.elim
end
end QW

set_option Elab.async false
set_option linter.all false
set_option maxRecDepth 100000
set_option maxHeartbeats 4000000
namespace QW
open PySem PySem.Spec PyProof.Rows L2
open Q (D R RA RB Ctl Cl S Mem Pat)
section
variable {X : Cx} {W : WX} {G : Cfg} {elt iter : Expr} {ifs : List Expr} {scope : Scope} {own : List (Str × Nat)} {pos spos py pt : Pos} {tt : Q.XB} {te ea : Q.X} {vs is : List Nat} {es : List Expr} {kk i : Nat} {y : Str}
theorem s_setLcd (hc : X.calm = true) (hN : X.N.Nodup) (hi : PE X iter (tE G noW ea)) (ok : BlkOk X.N X.env.scope scope own)
    (hg : ∀ (s : Shared) (H : Hp) (C : Addr) (cl : List (Str × Addr)) (fp : List Addr), PG (X.blk s H scope (compEnvC scope cl C X.env) fp) (.Tuple es kk pt) (tGk G is))
    (ht : ∀ (s : Shared) (H : Hp) (C : Addr) (cl : List (Str × Addr)) (fp : List Addr), PTs (X.blk s H scope (compEnvC scope cl C X.env) fp) ifs (tT G noW tt))
    (he : ∀ (s : Shared) (H : Hp) (C : Addr) (cl : List (Str × Addr)) (fp : List Addr), PE (X.blk s H scope (compEnvC scope cl C X.env) fp) elt (tE G noW te))
    (hy : X.N[i]? = some y := by rfl) (hyl : X.env.scope.names.lookup y = some .local := by rfl)
    (hsw : swapsWith (.ListComp elt [⟨.Tuple es kk pt, iter, ifs, 0⟩] scope pos) (some (.Name y py)) spos.line X.env = pure true := by exact sw_true rfl rfl rfl (by decide +kernel))
    (hvs : own.map (·.2) = vs := by rfl) (hsub : ∀ i ∈ is, i ∈ vs := by decide) (hs : ∀ x, foldedSetIterable iter X.env x = pure x := by intro _; rfl) :
    PS X (.Assign [.Name y py] (.ListComp elt [⟨.Tuple es kk pt, iter, ifs, 0⟩] scope pos) spos) (tS G W (Q.sset i (Q.lcd vs ea is tt te))) := by
  subst hvs
  refine PS.conv (ps_lock (ps_setLc (i := i) hc hN hy hyl hsw (pi_keys hi) ok hg ht he hs)) fun T σ H h => ?_
  exact lcd_reads (W := W) hsub (set_reads h)
end
end QW

set_option Elab.async false
set_option linter.all false
set_option maxRecDepth 100000
set_option maxHeartbeats 4000000
namespace QW
open PySem PySem.Spec PyProof.Rows L2
open Q (D R RA RB Ctl Cl S Mem Pat)
/-! ### isinstance(o, C) of an object -/
structure IcC (K : PySem.W.Frag) (C : Addr) : Prop where
  ha : PySem.W.findIn K (.ref C) "__class__" = some (some (.builtin "object.__class__"))
  hn : PySem.W.specialIn K (.builtin "object.__class__") "__get__" = some (some (.builtin "getset_descriptor.__get__"))
  ht : PySem.W.takesIn K (.builtin "object.__class__") = some true
  hm : PySem.W.mroIn K C (.type "object") = some true
section
variable {X : Cx} {W : WX} {G : Cfg} {n : Nat} {x : Str} {a b : Expr} {ea eb : Q.X} {p p2 pos : Pos} {r : Bool} {C : Addr}
theorem q_iso (hK : X.K = G.K) (O : ClsOk G n) (T : IcC G.K (G.cls n)) (hk : PySem.W.kitOne G.K (.ref (G.cls n)) (.ref C) = some r) (hmC : X.mg x = some (.ref C)) (hm : X.mg "isinstance" = none) (ha : PE X a (tE G W ea))
    (hg : Gl X "isinstance" := by rfl) (hgx : Gl X x := by rfl) (hdb : (x == ("__debug__" : Str)) = false := by decide)
    (he : starEach (a :: [.Name x p2]) X.env = (false, eval a X.env) :: starEach [.Name x p2] X.env := by rfl) (he2 : starEach (.Name x p2 :: []) X.env = (false, eval (.Name x p2) X.env) :: starEach [] X.env := by rfl) (hpl : (backTo pos (starEach [.Name x p2] X.env)).any (·.1) = false := by rfl) :
    PE X (.Call (.Name "isinstance" p) [a, .Name x p2] [] pos) (tE G W (Q.iso n r ea)) := by
  have cr : CallR X (.builtin "isinstance") (rIsi G.K) := hK ▸ call_isi
  have vx : PE X (.Name x p2) (tC (.ref C)) := pe_glob hgx hmC rfl hdb
  refine (pe_callB cr hg hm (by decide +kernel) (pa_cons ha (pa_cons vx pa_nil he2) he) (by decide) (by decide) he hpl).conv fun σ H P ⟨fm, pl, env, E, acc⟩ => tE_in E (acc_bind acc) fun pl1 d c m1 v H1 E1 s1 o1 acc1 => ?_
  obtain ⟨y, c', l, acc2⟩ := acc_rd E1 (o1.at (Ext.refl _)) acc1
  cases y with
  | obj k fs =>
    have acc2 : AccR G W fm pl1 (env.wm m1) σ H1 (if k = n then .ok (.bl r) .cold m1 else .bad) fun _ _ _ _ v H' => P v H' := acc2
    by_cases q : k = n
    · subst q
      rw [if_pos rfl] at acc2
      obtain ⟨q, dx, vs, rfl, e, _⟩ := l.obj
      exact ⟨.ref q, .ref C, _, .ref C, r, rfl, .own C, .base (.ins e O.cl T.ha T.hn T.ht T.hm), hk, acc2 _ _ H1 E1 (Ext.refl _) (Rep.bl r)⟩
    · rw [if_neg q] at acc2; exact acc2.elim
  | _ => exact acc2.elim
/-! ### == of lists whose items stand in the memory -/
theorem deepL_rep {fm : Fm} {pl : Pl} {env : Q.Env} {ks : List (V × D)} {σ : L2.St} {H : Hp} (E : EnvOk G fm pl env ks σ H) : ∀ {vs : List V} {xs ys : List D}, Reps G (TM fm pl) H vs xs → Q.deepL env.mem xs = some ys → Reps G (TM fm pl) H vs ys
  | vs, [], ys, r, h => by cases h; exact r
  | [], x :: xs, ys, r, h => by have := r.1; simp at this
  | v :: vs, x :: xs, ys, r, h => by
    have h : ((Q.deep1 env.mem x).bind fun y => (Q.deepL env.mem xs).map (y :: ·)) = some ys := h
    cases q : Q.deep1 env.mem x with
    | none => rw [q] at h; cases h
    | some y =>
      rw [q] at h
      cases q2 : Q.deepL env.mem xs with
      | none => rw [q2] at h; cases h
      | some zs =>
        rw [q2] at h
        cases h
        refine Reps.cons ?_ (deepL_rep E r.tail q2)
        by_cases hp : ∃ j, x = .ptr j
        · obtain ⟨j, rfl⟩ := hp
          obtain ⟨a, rfl, ha⟩ := r.head.ptr_inv
          have q : Q.at_ env.mem j = some y := q
          obtain ⟨p, g1, g2, g3⟩ := E.mem.cell j y (get_mem q)
          have e : a = p := Option.some.inj (ha.symm.trans g1)
          subst e
          exact (g3.sub cold_tm fun o e => e).rep (E.hsTM (.inr g2))
        · have e : x = y := by
            cases x with
            | ptr j => exact absurd ⟨j, rfl⟩ hp
            | _ => exact Option.some.inj q
          rw [← e]; exact r.head
theorem deep_rep {fm : Fm} {pl : Pl} {env : Q.Env} {ks : List (V × D)} {σ : L2.St} {H : Hp} {v : V} {x y : D} (E : EnvOk G fm pl env ks σ H) (r : Rep G (TM fm pl) H v x) (h : Q.deepD env.mem x = some y) : Rep G (TM fm pl) H v y := by
  cases x with
  | lst xs =>
    have h : (Q.deepL env.mem xs).map D.lst = some y := h
    cases q : Q.deepL env.mem xs with
    | none => rw [q] at h; cases h
    | some ys =>
      rw [q] at h
      cases h
      cases r with
      | lst ha e hl hr =>
        obtain ⟨l2, r2⟩ := deepL_rep E ⟨hl, hr⟩ q
        exact .lst ha e l2 r2
  | tup xs =>
    have h : (Q.deepL env.mem xs).map D.tup = some y := h
    cases q : Q.deepL env.mem xs with
    | none => rw [q] at h; cases h
    | some ys =>
      rw [q] at h
      cases h
      cases r with
      | tup ha e hl hr =>
        obtain ⟨l2, r2⟩ := deepL_rep E ⟨hl, hr⟩ q
        exact .tup ha e l2 r2
  | _ => cases h; exact r
theorem op2M_of {r : R2} {f : D → D → Option D} (hf : OpD G r f) {σ : L2.St} {H : Hp} {P : VK} (h : tE G W (Q.op2M f ea eb) σ H P) : tOp r (tE G W ea) (tE G W eb) σ H P := by
  obtain ⟨fm, pl, env, E, acc⟩ := h
  refine tE_in E (acc_bind acc) fun pl1 d c m1 v H1 E1 s1 o1 acc1 => tE_in E1 (acc_bind acc1) fun pl2 d2 c2 m2 v2 H2 E2 s2 o2 acc2 => ?_
  obtain ⟨x, c', l1, acc3⟩ := acc_rd E2 (o1.at s2) acc2
  obtain ⟨y, c'', l2, acc4⟩ := acc_rd E2 (o2.at (Ext.refl _)) acc3
  cases q1 : Q.deepD m2 x with
  | none => rw [q1] at acc4; exact acc4.elim
  | some x' =>
    rw [q1] at acc4
    have acc4 : AccR G W fm pl2 (env.wm m2) σ H2 (Q.dpT m2 f x' (Q.deepD m2 y)) fun _ _ _ _ v H' => P v H' := acc4
    cases q2 : Q.deepD m2 y with
    | none => rw [q2] at acc4; exact acc4.elim
    | some y' =>
      rw [q2] at acc4
      obtain ⟨z, q, acc5⟩ := ofO_some acc4
      obtain ⟨sz, k⟩ := hf x' y' z q
      obtain ⟨vz, rz, k⟩ := k _ H2 v v2 (deep_rep E2 l1.any q1) (deep_rep E2 l2.any q2)
      exact k _ (acc5 _ vz H2 E2 (Ext.refl _) (rz.scalar sz))
theorem q_cmpM {op : CmpOp} {r : R2} {f : D → D → Option D} (ho : OpR X (compareOp op) r) (hf : OpD G r f) (ha : PE X a (tE G W ea)) (hb : PE X b (tE G W eb)) (hm : behindInMarks op b = false := by first | exact nomark _ | rfl) :
    PE X (.Compare a [op] [b] pos) (tE G W (Q.op2M f ea eb)) := (pe_cmpR ho ha hb hm).conv fun _ _ _ h => op2M_of hf h
theorem q_tcmpM {op : CmpOp} {r : R2} {f : D → D → Option D} (ho : OpR X (compareOp op) r) (hf : OpD G r f) (ha : PE X a (tE G W ea)) (hb : PE X b (tE G W eb)) (hm : behindInMarks op b = false := by first | exact nomark _ | rfl) :
    PT X (.Compare a [op] [b] pos) (tT G W (Q.tst (Q.op2M f ea eb))) := PT.conv (pt_cmpR ho ha hb hm) fun _ _ _ h => op2M_of hf (tst_tE h)
end
end QW

set_option Elab.async false
set_option linter.all false
set_option maxRecDepth 100000
set_option maxHeartbeats 4000000
namespace QW
open PySem PySem.Spec PyProof.Rows L2
open Q (D R RA RB Ctl Cl S Mem Pat)
/-! ### list(d) -/
theorem keys_reps {G : Cfg} {A : Reg} {H : Hp} (ht : ∀ a, TupH H a → A.p a) {ws : List (List Key × V)} {bs : List Addr} (k : IsKeys H ws bs) : ∀ {kvs : List (List Int × D)}, ws.length = kvs.length → (∀ (i : Nat) w x, ws[i]? = some w → kvs[i]? = some x → w.1 = x.1.map Sum.inl) → Reps G A H (bs.map V.ref) (kvs.map fun kv => Q.tupK kv.1) := by
  unfold IsKeys at k
  induction k with
  | nil =>
    intro kvs l r
    cases kvs with
    | nil => exact Reps.nil
    | cons _ _ => simp at l
  | @cons w b ws bs h t ih =>
    intro kvs l r
    cases kvs with
    | nil => simp at l
    | cons x kvs =>
      have h1 := r 0 w x rfl rfl
      have h : H b = some (.tup (w.1.map kV)) := h
      rw [h1, keys_ints] at h
      refine Reps.cons ?_ (ih (by simpa using l) fun i a c e f => r (i + 1) a c (by simpa using e) (by simpa using f))
      exact .tup (ht b ⟨_, h⟩) h (by simp) (reps_ints x.1).2
section
variable {X : Cx} {W : WX} {G : Cfg} {a : Expr} {ea : Q.X} {p pos : Pos}
theorem keyV_ints {G : Cfg} {A : Reg} {H : Hp} : ∀ {ws : List (Key × V)} {kvs : List (Int × D)}, RepI G A H ws kvs → ws.map (fun kv => kV kv.1) = (kvs.map (·.1)).map V.int
  | [], [], _ => rfl
  | [], _ :: _, h => by have := h.1; simp at this
  | _ :: _, [], h => by have := h.1; simp at this
  | w :: ws, x :: kvs, h => by
    have h1 := (h.2 0 w x rfl rfl).1
    rw [List.map_cons, List.map_cons, List.map_cons, h1, keyV_ints (ws := ws) (kvs := kvs) ⟨by simpa using h.1, fun i a b e f => h.2 (i + 1) a b (by simpa using e) (by simpa using f)⟩]
    rfl
def rListDD : List V → Hp → VK → Prop := fun xs H Q => (∃ p kvs, xs = [.ref p] ∧ H p = some (.dK kvs) ∧ ∀ q, H q = none → Q (.ref q) (upd H q (.lst (kvs.map fun kv => kV kv.1)))) ∨
  ∃ d kvs, xs = [V.ref d] ∧ Rd H d (.dT kvs) ∧ ∀ p bs, H p = none → IsKeys H kvs bs → Q (.ref p) (upd H p (.lst (bs.map V.ref)))
theorem call_listDD (hc : X.calm = true) : CallR X (.type "list") rListDD := by
  intro pins s σ H xs us Q I r h
  rcases h with h | h
  · exact call_list_dK hc pins s σ H xs us Q I r h
  · exact call_list_dT hc pins s σ H xs us Q I r h
theorem q_listD (hc : X.calm = true) (hm : X.mg "list" = none) (ha : PE X a (tE G W ea)) (hg : Gl X "list" := by rfl)
    (he : starEach (a :: []) X.env = (false, eval a X.env) :: starEach [] X.env := by rfl) (hpl : (backTo pos (starEach [] X.env)).any (·.1) = false := by rfl) :
    PE X (.Call (.Name "list" p) [a] [] pos) (tE G W (Q.listD ea)) := by
  refine (pe_callTy (call_listDD hc) hg hm (by decide +kernel) (pa_cons ha pa_nil he) (by decide) (by decide) he hpl).conv fun σ H P ⟨fm, pl, env, E, acc⟩ => tE_in E (acc_bind acc) fun pl1 d c m1 v H1 E1 s1 o1 acc1 => ?_
  obtain ⟨y, c', l, acc2⟩ := acc_rd E1 (o1.at (Ext.refl _)) acc1
  cases y with
  | dik kvs =>
    have acc2 : AccR G W fm pl1 (env.wm m1) σ H1 (if kvs.length ≤ Q.most then .ok (.lst (kvs.map fun kv => .int kv.1)) .fresh m1 else .bad) fun _ _ _ _ v H' => P v H' := acc2
    by_cases q : kvs.length ≤ Q.most
    · rw [if_pos q] at acc2
      obtain ⟨p, rfl, ws, hd, r⟩ := l.con rfl
      refine .inl ⟨p, ws, rfl, hd, fun t ht => ?_⟩
      rw [keyV_ints r]
      have e : kvs.map (fun kv => D.int kv.1) = (kvs.map (·.1)).map D.int := by rw [List.map_map]; rfl
      rw [e] at acc2
      exact acc2 _ _ _ (E1.later (same_new ht)) (ext_new ht) (fresh_lst E1 (reps_ints _) ht)
    · rw [if_neg q] at acc2; exact acc2.elim
  | dtk kvs =>
    have acc2 : AccR G W fm pl1 (env.wm m1) σ H1 (if kvs.length ≤ Q.most then .ok (.lst (kvs.map fun kv => Q.tupK kv.1)) .fresh m1 else .bad) fun _ _ _ _ v H' => P v H' := acc2
    by_cases q : kvs.length ≤ Q.most
    · rw [if_pos q] at acc2
      obtain ⟨p, rfl, ws, hd, r⟩ := l.con rfl
      refine .inr ⟨p, ws, rfl, .inl hd, fun t bs ht hk => ?_⟩
      have rr : Reps G (Cold fm pl1) H1 (bs.map V.ref) (kvs.map fun kv => Q.tupK kv.1) := keys_reps (fun a h => E1.tup h) hk (kvs := kvs) r.1 fun i w x e f => (r.2 i w x e f).1
      exact acc2 _ _ _ (E1.later (same_new ht)) (ext_new ht) (fresh_lst E1 rr ht)
    · rw [if_neg q] at acc2; exact acc2.elim
  | _ => exact acc2.elim
end
end QW

set_option Elab.async false
set_option linter.all false
set_option maxRecDepth 100000
set_option maxHeartbeats 4000000
namespace QW
open PySem PySem.Spec PyProof.Rows L2
open Q (D R RA RB Ctl Cl S Mem Pat)
theorem rm65 {k : Nat} {A : Around} (r : Room k A) : A.units + 65 < cLine := by have := r.un; omega
theorem rm3 {k : Nat} {A : Around} (r : Room k A) : A.units + 3 < cLine := by have := r.un; omega
/-! ### x in l, l.index(x): l a list of data -/
theorem dataL_some {x : D} {ds : List D} (h : Q.dataL x ds = true) : x.plain = true ∧ Q.D.plains ds = true ∧ SeqAt.shaped (toPy x) = true ∧ SeqAt.shaped (.list (toPys ds)) = true := by
  unfold Q.dataL at h
  simp only [Bool.and_eq_true, decide_eq_true_eq] at h
  obtain ⟨⟨⟨p1, p2⟩, d1⟩, d2⟩ := h
  have p3 : (D.lst ds).plain = true := by rw [Q.D.plain]; exact p2
  have e : PyData.list (toPys ds) = toPy (.lst ds) := by rw [toPy]
  refine ⟨p1, p2, ?_, ?_⟩
  · unfold SeqAt.shaped; rw [lay_of p1, depth_of]; simpa using d1
  · rw [e]; unfold SeqAt.shaped; rw [lay_of p3, depth_of]; simpa using d2
theorem toPys_map : ∀ ds : List D, toPys ds = ds.map toPy
  | [] => by rw [toPys]; rfl
  | x :: xs => by rw [toPys, toPys_map xs]; rfl
theorem plains_mem : ∀ {ds : List D}, Q.D.plains ds = true → ∀ d ∈ ds, d.plain = true
  | [], _, d, h => by simp at h
  | x :: xs, h, d, hd => by
    rw [Q.D.plains, Bool.and_eq_true] at h
    rcases List.mem_cons.mp hd with rfl | hd
    · exact h.1
    · exact plains_mem h.2 d hd
theorem any_py {x : D} (hx : x.plain = true) : ∀ {ds : List D}, Q.D.plains ds = true → ((toPys ds).any fun z => PyData.eqv z (toPy x)) = ds.any fun y => Q.D.eqv y x
  | [], _ => by rw [toPys]; rfl
  | y :: ys, h => by
    rw [Q.D.plains, Bool.and_eq_true] at h
    rw [toPys, List.any_cons, List.any_cons, any_py hx h.2, eqv_of h.1 hx]
theorem dpl_of {G : Cfg} {A : Reg} {H : Hp} {v : V} {ds : List D} (r : Rep G A H v (.lst ds)) (h : Q.D.plains ds = true) : Dp G.K H v (.list (toPys ds)) := by
  have e : PyData.list (toPys ds) = toPy (.lst ds) := by rw [toPy]
  rw [e]
  exact dp_of r (by rw [Q.D.plain]; exact h)
theorem od_inD {G : Cfg} : OpD G (rInD G.K) Q.opInD := fun x y z h => by
  cases y with
  | lst ds =>
    have h : (if Q.dataL x ds = true then some (D.bl (ds.any fun y => Q.D.eqv y x)) else none) = some z := h
    by_cases q : Q.dataL x ds = true
    · rw [if_pos q] at h
      cases h
      obtain ⟨p1, p2, s1, s2⟩ := dataL_some q
      exact ⟨rfl, fun A H vx vy rx ry => ⟨_, .bl _, fun P p => ⟨_, _, dp_of rx p1, dpl_of ry p2, s1, s2, by rw [any_py p1 p2]; exact p⟩⟩⟩
    · rw [if_neg q] at h; cases h
  | _ => cases h
theorem od_notInD {G : Cfg} : OpD G (rNotInD G.K) Q.opNotInD := fun x y z h => by
  cases y with
  | lst ds =>
    have h : (if Q.dataL x ds = true then some (D.bl (!ds.any fun y => Q.D.eqv y x)) else none) = some z := h
    by_cases q : Q.dataL x ds = true
    · rw [if_pos q] at h
      cases h
      obtain ⟨p1, p2, s1, s2⟩ := dataL_some q
      exact ⟨rfl, fun A H vx vy rx ry => ⟨_, .bl _, fun P p => ⟨_, _, dp_of rx p1, dpl_of ry p2, s1, s2, by rw [any_py p1 p2]; exact p⟩⟩⟩
    · rw [if_neg q] at h; cases h
  | _ => cases h
section
variable {X : Cx} {W : WX} {G : Cfg} {o e a : Expr} {eo ea : Q.X} {p p2 q pos pa pc : Pos}
theorem q_lindex (hK : X.K = G.K) (hu : X.A.units + 65 < cLine) (ho : PE X o (tE G W eo)) (he : PE X e (tE G W ea))
    (hbase : attributeBase o "index" X.env (eval o X.env) = eval o X.env := by rfl)
    (hfew : ((backTo pc (starEach (e :: []) X.env)).all (fun x => !x.1) && (backToKw pc (keywordEach [] X.env)).all (fun x => x.1.isSome)
      && decide ((e :: []).length + ([] : List Keyword).length + (if ([] : List Keyword).isEmpty then 0 else 1) < 30)) = true := by rfl)
    (hline : (pa.endLine == pc.line) = true := by rfl) (hst : starEach (e :: []) X.env = (false, eval e X.env) :: starEach [] X.env := by rfl) (hplain : (backTo pc (starEach [] X.env)).any (·.1) = false := by rfl) :
    PE X (.Call (.Attribute o "index" pa) [e] [] pc) (tE G W (Q.lindex eo ea)) :=
  (pe_bm PySem.F.plainAttrs_list PySem.F.slot_list_index PySem.F.type_list_index (mt_indexD hu) ho (pa_cons he pa_nil hst) hbase hfew hline hst hplain).conv fun σ H P ⟨fm, pl, env, E, acc⟩ => tE_in E (acc_bind acc) fun pl1 d c m1 v H1 E1 s1 o1 acc1 => by
    cases d with
    | lst ds =>
      have acc1 : AccR G W fm pl1 (env.wm m1) σ H1 ((ea (env.wm m1)).bind fun y c m => Q.rd m y c fun y _ => Q.ofO m (Q.fIndex y (.lst ds))) fun _ _ _ _ v H' => P v H' := acc1
      obtain ⟨p0, vs0, rfl, e0, r0⟩ := DOk.lst (o1.look)
      refine ⟨.inl ⟨rfl, _, SqL.of e0⟩, tE_in E1 (acc_bind acc1) fun pl2 d2 c2 m2 v2 H2 E2 s2 o2 acc2 => ?_⟩
      obtain ⟨y, c', l2, acc3⟩ := acc_rd E2 (o2.at (Ext.refl _)) acc2
      obtain ⟨z, q, acc4⟩ := ofO_some acc3
      have q : (if Q.dataL y ds = true then (ds.findIdx? fun z => Q.D.eqv z y).map fun j => D.int (j : Nat) else none) = some z := q
      by_cases hd : Q.dataL y ds = true
      · rw [if_pos hd] at q
        obtain ⟨j, hj, rfl⟩ := Option.map_eq_some_iff.mp q
        obtain ⟨p1, p3, sh1, sh2⟩ := dataL_some hd
        obtain ⟨h1, h2, h3⟩ := List.findIdx?_eq_some_iff_getElem.mp hj
        have hp := plains_mem p3
        refine ⟨_, v2, toPy y, toPys ds, j, toPy ds[j], rfl, rfl, hK ▸ dpl_of (o1.at s2).1.any p3, hK ▸ dp_of l2.any p1, sh2, sh1, ?_, ?_, fun m z' hm hz => ?_, acc4 _ _ H2 E2 (Ext.refl _) (Rep.int _)⟩
        · rw [toPys_map, List.getElem?_map, List.getElem?_eq_getElem h1]; rfl
        · rw [eqv_of (hp _ (List.getElem_mem h1)) p1]; exact h2
        · rw [toPys_map, List.getElem?_map, List.getElem?_eq_getElem (by omega)] at hz
          cases hz
          rw [eqv_of (hp _ (List.getElem_mem _)) p1]
          have := h3 m hm
          simpa using this
      · rw [if_neg hd] at q; cases q
    | _ => exact acc1.elim
/-! ### len(set(l)) of unlike tuples of whole numbers -/
def tLenSetT (K : PySem.W.Frag) (ta : TE) : TE := fun σ H Q => ta σ H fun x H1 => ∃ (l : Addr) (ks : List (Addr × List Int)), x = V.ref l ∧ SqL K H1 l (ks.map fun p => V.ref p.1) ∧ (∀ p ∈ ks, SqT K H1 p.1 (p.2.map V.int)) ∧ ks.length < 64 ∧ (ks.map (·.2)).Nodup ∧ Q (.int (ks.length : Nat)) H1
theorem nd_length {α : Type} : ∀ {l m : List α}, l.Nodup → (∀ x ∈ l, x ∈ m) → l.length ≤ m.length
  | [], m, _, _ => by simp
  | a :: l, m, hn, hs => by
    obtain ⟨m1, m2, rfl⟩ := List.append_of_mem (hs a List.mem_cons_self)
    have hn' := List.nodup_cons.mp hn
    have := nd_length (l := l) (m := m1 ++ m2) hn'.2 fun x hx => by
      have := hs x (List.mem_cons_of_mem _ hx)
      rcases List.mem_append.mp this with h | h
      · exact List.mem_append_left _ h
      · rcases List.mem_cons.mp h with rfl | h
        · exact absurd hx hn'.1
        · exact List.mem_append_right _ h
    simp only [List.length_append, List.length_cons] at this ⊢
    omega
theorem pe_lenSetT {ta : TE} (hc : X.calm = true) (hu : X.A.units + 3 < cLine) (hg : Gl X "len") (hm : X.mg "len" = none) (hg2 : Gl X "set") (hm2 : X.mg "set" = none) (ha : PE X a ta)
    (na : starEach [a] X.env = (false, eval a X.env) :: starEach [] X.env := by rfl) : PE X (.Call (.Name "len" p) [.Call (.Name "set" p2) [a] [] q] [] pos) (tLenSetT X.K ta) := by
  refine ⟨fun pins s σ H Q I h => Call_ (ld_blt I hg hm PySem.boot_len ?_)⟩
  refine PyProof.Rows.callWith_builtin1 (PyProof.Rows.args_cons (Call_ (ld_blt I hg2 hm2 PyProof.Rows.boot_set ?_)) rfl) rfl rfl
  refine PyProof.Rows.callWith_type1 (PyProof.Rows.args_cons (thn (ha.run pins s σ H _ I h) fun v s1 ⟨x, H1, I1, r1, q1⟩ => PyProof.Rows.args_nil ?_) na) na rfl
  obtain ⟨l, ks, rfl, hl, hk, hf, hnd, q1⟩ := q1
  cases r1
  obtain ⟨its, rv, pl, hz⟩ := I1.list hl
  refine call_set_tups (P := X.prog) (w := X.w) ks (I1.ok.hd hc) pl.isList (by simpa using refs_of_vals rv) (fun p hp => I1.isT (hk p hp)) hf (by simpa [Around.in1] using hu) fun h' tk L es ep t R g k => ?_
  obtain ⟨o, ho, hex, hdt⟩ := R.ob
  have hsz : es.size = ks.length := by
    have e1 : es.size = L.length := SetTR.size (s := { s1 with heap := h', toks := tk }) R
    have hle := g.len
    have hge : (ks.map (·.2)).length ≤ (L.map (·.2)).length := nd_length hnd fun x hx => by
      obtain ⟨p, hp, rfl⟩ := List.mem_map.mp hx
      exact g.all p (by rw [List.take_length]; exact hp)
    rw [List.length_map, List.length_map] at hge
    omega
  have I2 : Inv X pins σ H1 { s1 with heap := h', toks := tk } := I1.kept k
  refine PyProof.Rows.args_nil ?_
  exact call_len_set ho hex hdt (SetTR.fits (s := { s1 with heap := h', toks := tk }) R) (by rw [hsz]; omega) ⟨.int ks.length, H1, I2.tok _, ⟨_, by rw [hsz]⟩, q1⟩
theorem tups_reps {A : Reg} {H : Hp} : ∀ {ds : List D} {ks : List (List Int)} {vs : List V}, Q.tupsD ds = some ks → Reps G A H vs ds → ∃ ps : List (Addr × List Int), vs = ps.map (fun p => V.ref p.1) ∧ ps.map (·.2) = ks ∧ ∀ p ∈ ps, SqT G.K H p.1 (p.2.map V.int)
  | [], ks, vs, h, r => by
    cases h
    have := r.1
    have : vs = [] := List.eq_nil_of_length_eq_zero (by simpa using this)
    exact ⟨[], by simp [this], rfl, fun p hp => by simp at hp⟩
  | d :: ds, ks, [], h, r => by have := r.1; simp at this
  | d :: ds, ks, v :: vs, h, r => by
    cases d with
    | tup xs =>
      have h : ((Q.intsD xs).bind fun k => (Q.tupsD ds).map (k :: ·)) = some ks := h
      cases q1 : Q.intsD xs with
      | none => rw [q1] at h; cases h
      | some k =>
        rw [q1] at h
        cases q2 : Q.tupsD ds with
        | none => rw [q2] at h; cases h
        | some ks2 =>
          rw [q2] at h
          cases h
          obtain ⟨ps, e1, e2, e3⟩ := tups_reps q2 r.tail
          obtain ⟨b, rfl⟩ := r.head.tup_inv
          obtain ⟨us, hh, hs, rr⟩ := r.head.tupSq
          rw [rr.intsD (Q.of_ints q1)] at hs
          refine ⟨(b, k) :: ps, by rw [e1]; rfl, by rw [List.map_cons, e2], fun p hp => ?_⟩
          rcases List.mem_cons.mp hp with rfl | hp
          · exact hs
          · exact e3 p hp
    | _ => cases h
theorem q_lenSet (hK : X.K = G.K) (hc : X.calm = true) (hu : X.A.units + 3 < cLine) (hm : X.mg "len" = none) (hm2 : X.mg "set" = none) (ha : PE X a (tE G W ea)) (hg : Gl X "len" := by rfl) (hg2 : Gl X "set" := by rfl)
    (na : starEach [a] X.env = (false, eval a X.env) :: starEach [] X.env := by rfl) : PE X (.Call (.Name "len" p) [.Call (.Name "set" p2) [a] [] q] [] pos) (tE G W (Q.lenSet ea)) :=
  (pe_lenSetT hc hu hg hm hg2 hm2 ha na).conv fun σ H P ⟨fm, pl, env, E, acc⟩ => tE_in E (acc_bind acc) fun pl1 d c m1 v H1 E1 s1 o1 acc1 => by
    obtain ⟨y, c', l, acc2⟩ := acc_rd E1 (o1.at (Ext.refl _)) acc1
    obtain ⟨z, q, acc3⟩ := ofO_some acc2
    cases y with
    | lst ds =>
      have q : Q.lsT (Q.tupsD ds) = some z := q
      cases qt : Q.tupsD ds with
      | none => rw [qt] at q; cases q
      | some ks =>
        rw [qt] at q
        have q : (if ks.Nodup ∧ ks.length < 64 then some (D.int (ks.length : Nat)) else none) = some z := q
        by_cases hn : ks.Nodup ∧ ks.length < 64
        · rw [if_pos hn] at q
          cases q
          obtain ⟨p0, vs0, rfl, e0, r0⟩ := l.lst
          obtain ⟨ps, e1, e2, e3⟩ := tups_reps qt r0
          have hl : ps.length = ks.length := by rw [← e2, List.length_map]
          refine ⟨p0, ps, rfl, by rw [hK, ← e1]; exact SqL.of e0, by rw [hK]; exact e3, by rw [hl]; exact hn.2, by rw [e2]; exact hn.1, ?_⟩
          rw [hl]
          exact acc3 _ _ H1 E1 (Ext.refl _) (Rep.int _)
        · rw [if_neg hn] at q; cases q
    | _ => cases q
end
end QW

set_option Elab.async false
set_option linter.all false
set_option maxRecDepth 100000
set_option maxHeartbeats 4000000
namespace QW
open PySem PySem.Spec PyProof.Rows L2
open Q (D R RA RB Ctl Cl S Mem Pat)
/-! ### tuples in order -/
theorem lexLt_hand : ∀ xs ys : List Int, HT.lexLt xs ys = Q.lexLt xs ys
  | [], [] => rfl
  | [], _ :: _ => rfl
  | _ :: _, [] => rfl
  | x :: xs, y :: ys => by
    rw [HT.lexLt_cons, lexLt_hand xs ys]; rfl
theorem od_ltT {G : Cfg} : OpD G (rLtT G.K) Q.opLtT := fun x y z h => by
  cases x with
  | tup xs =>
    cases y with
    | tup ys =>
      have h : Q.ltT2 (Q.intsD xs) (Q.intsD ys) = some z := h
      cases q1 : Q.intsD xs with
      | none => rw [q1] at h; cases h
      | some ns =>
        cases q2 : Q.intsD ys with
        | none => rw [q1, q2] at h; cases h
        | some ms =>
          rw [q1, q2] at h
          cases h
          refine ⟨rfl, fun A H vx vy rx ry => ⟨_, .bl _, fun P p => ?_⟩⟩
          obtain ⟨a, rfl⟩ := rx.tup_inv
          obtain ⟨b, rfl⟩ := ry.tup_inv
          obtain ⟨us, _, hs, rr⟩ := rx.tupSq
          obtain ⟨ws, _, ht, rt⟩ := ry.tupSq
          rw [rr.intsD (Q.of_ints q1)] at hs
          rw [rt.intsD (Q.of_ints q2)] at ht
          exact ⟨a, b, ns, ms, rfl, rfl, hs, ht, by rw [lexLt_hand]; exact p⟩
    | _ => cases h
  | _ => cases y <;> cases h
/-! ### min of tuples of whole numbers -/
def tpI (k : List Int) : PyData := .tuple (k.map .int)
theorem toks_ints : ∀ xs ys : List Int, PyProof.Rows.lexLt PyProof.Rows.itemOrd (PySem.W.keyToksAll (xs.map .int)) (PySem.W.keyToksAll (ys.map .int)) = Q.lexLt xs ys
  | [], [] => by rw [List.map_nil, PySem.W.keyToksAll]; rfl
  | [], y :: ys => by
    rw [List.map_nil, List.map_cons, PySem.W.keyToksAll, PySem.W.keyToksAll, PyProof.Rows.lex_diff (O := PyProof.Rows.itemOrd) (by intro z; cases z)]
    rfl
  | x :: xs, [] => by
    rw [List.map_nil, List.map_cons, PySem.W.keyToksAll, PySem.W.keyToksAll, PyProof.Rows.lex_diff (O := PyProof.Rows.itemOrd) (by intro z; cases z)]
    rfl
  | x :: xs, y :: ys => by
    rw [List.map_cons, List.map_cons, PySem.W.keyToksAll, PySem.W.keyToksAll, PyProof.Rows.lex_self (O := PyProof.Rows.itemOrd), PySem.W.keyToks, PySem.W.keyToks, List.singleton_append, List.singleton_append]
    by_cases e : x = y
    · subst e
      rw [PyProof.Rows.lex_self (O := PyProof.Rows.itemOrd), toks_ints xs ys]
      unfold Q.lexLt
      rw [if_pos rfl]
      cases xs <;> cases ys <;> rfl
    · rw [PyProof.Rows.lex_diff (O := PyProof.Rows.itemOrd) (by intro z; cases z; exact e rfl)]
      show decide (x < y) = Q.lexLt (x :: xs) (y :: ys)
      unfold Q.lexLt
      rw [if_neg e]
theorem tpI_lt (k l : List Int) : PySem.W.dataLt (tpI k) (tpI l) = Q.lexLt k l := by
  unfold tpI
  rw [PySem.W.dataLt_tuple, toks_ints]
theorem tpI_alike (k l : List Int) : PySem.W.alike (tpI k) (tpI l) = true := by
  have h : ∀ k l : List Int, PySem.W.alikeAll (k.map .int) (l.map .int) = true := by
    intro k
    induction k with
    | nil => intro l; rw [List.map_nil, PySem.W.alikeAll]
    | cons x k ih =>
      intro l
      cases l with
      | nil => rw [List.map_nil, List.map_cons, PySem.W.alikeAll]
      | cons y l => rw [List.map_cons, List.map_cons, PySem.W.alikeAll, ih l, PySem.W.alike]; rfl
  unfold tpI
  rw [PySem.W.alike]; exact h k l
theorem minD_tups (k : List Int) : ∀ ks : List (List Int), PySem.W.minD (tpI k) (ks.map tpI) = tpI (Q.minL k ks) := by
  intro ks
  unfold PySem.W.minD Q.minL
  induction ks generalizing k with
  | nil => rfl
  | cons y ks ih =>
    rw [List.map_cons, List.foldl_cons, List.foldl_cons, tpI_lt]
    by_cases q : Q.lexLt y k = true
    · rw [if_pos q, if_pos q]; exact ih y
    · rw [if_neg q, if_neg q]; exact ih k
def rMinT (K : PySem.W.Frag) : List V → Hp → VK → Prop := fun vs H P => ∃ (a : Addr) (xs : List V) (k : List Int) (ks : List (List Int)), vs = [V.ref a] ∧ SqL K H a xs ∧ DpAll K H xs ((k :: ks).map tpI) ∧
  ∀ (i : Nat) (v : V), xs[i]? = some v → (k :: ks)[i]? = some (Q.minL k ks) → P v H
theorem tpI_inj {k l : List Int} (h : tpI k = tpI l) : k = l := by
  unfold tpI at h
  injection h with h
  have : ∀ k l : List Int, k.map PyData.int = l.map PyData.int → k = l := by
    intro k
    induction k with
    | nil => intro l h; cases l with
      | nil => rfl
      | cons _ _ => cases h
    | cons x k ih => intro l h; cases l with
      | nil => cases h
      | cons y l =>
        rw [List.map_cons, List.map_cons] at h
        injection h with h1 h2
        injection h1 with h1
        rw [h1, ih l h2]
  exact this k l h
theorem depth_tps : ∀ ks : List (List Int), PyData.depthAll (ks.map tpI) ≤ 2
  | [] => by simp [PyData.depthAll]
  | k :: ks => by
    have h1 := depth_tps ks
    have h2 : ∀ k : List Int, PyData.depthAll (k.map PyData.int) ≤ 1 := fun k => by
      induction k with
      | nil => simp [PyData.depthAll]
      | cons x k ih => rw [List.map_cons, PyData.depthAll, PyData.depth]; omega
    have := h2 k
    rw [List.map_cons, PyData.depthAll, tpI, PyData.depth]
    omega
theorem cr_minT {X : Cx} (hc : X.calm = true) (hu : X.A.units + 65 < cLine) : CallR X (.builtin "min") (rMinT X.K) := by
  intro pins s σ H vs us Q I r h
  obtain ⟨a, xs, k, ks, rfl, hs, hd, q⟩ := h
  obtain ⟨its, rv, pl, hz⟩ := I.list hs
  rw [Vals.ref1 r]
  obtain ⟨as, rd⟩ := Dp.readsAll I _ xs its hd rv
  have al : ∀ x ∈ (k :: ks).map tpI, ∃ l, x = tpI l := fun x hx => by
    obtain ⟨l, _, rfl⟩ := List.mem_map.mp hx; exact ⟨l, rfl⟩
  refine PySem.W.min_list_data (x := tpI k) (xs := ks.map tpI) (I.ok.hd hc) pl.isList (by simpa using rd) ⟨fun x hx y hy => ?_, fun x hx => ?_⟩ ?_ fun i v h' tk bs hv hr hk => ?_
  · obtain ⟨l, rfl⟩ := al x hx
    obtain ⟨m, rfl⟩ := al y hy
    exact tpI_alike l m
  · obtain ⟨l, rfl⟩ := al x hx
    intro z; cases z
  · have := depth_tps (k :: ks)
    rw [List.map_cons] at this
    omega
  · rw [minD_tups] at hr
    have hv2 : its[i]? = some v := by simpa using hv
    have hi := (List.getElem?_eq_some_iff.mp hv2).1
    have hxl : i < xs.length := by rw [rv.length]; exact hi
    obtain ⟨u, e1, e2⟩ := rv.get (List.getElem?_eq_getElem hxl)
    rw [hv2] at e1
    cases e1
    obtain ⟨bs2, r2, hi2, _, _⟩ := PySem.W.readsAll_atA (xs := (k :: ks).map tpI) (by simpa using rd) i v hv
    rw [List.length_map] at hi2
    have e3 : ((k :: ks).map tpI).getD i .none = tpI ((k :: ks)[i]'hi2) := by
      rw [List.getD_eq_getElem?_getD, List.getElem?_map, List.getElem?_eq_getElem hi2]; rfl
    rw [e3] at r2
    have e4 := PySem.W.alike_unique _ _ v _ _ (tpI_alike _ _) (Reads.keeps hk r2) hr
    have e5 := tpI_inj e4
    exact ⟨_, H, I.kept hk, e2, q i _ (List.getElem?_eq_getElem hxl) (by rw [List.getElem?_eq_getElem hi2, e5])⟩
section
variable {X : Cx} {W : WX} {G : Cfg} {a e : Expr} {ea : Q.X} {p pos : Pos}
theorem tups_dp {A : Reg} {H : Hp} : ∀ {ds : List D} {ks : List (List Int)} {vs : List V}, Q.tupsD ds = some ks → Reps G A H vs ds → DpAll G.K H vs (ks.map tpI)
  | [], ks, vs, h, r => by
    cases h
    have : vs = [] := List.eq_nil_of_length_eq_zero (by simpa using r.1)
    rw [this]; exact .nil
  | d :: ds, ks, [], h, r => by have := r.1; simp at this
  | d :: ds, ks, v :: vs, h, r => by
    cases d with
    | tup xs =>
      have h : ((Q.intsD xs).bind fun k => (Q.tupsD ds).map (k :: ·)) = some ks := h
      cases q1 : Q.intsD xs with
      | none => rw [q1] at h; cases h
      | some k =>
        rw [q1] at h
        cases q2 : Q.tupsD ds with
        | none => rw [q2] at h; cases h
        | some ks2 =>
          rw [q2] at h
          cases h
          have ex := Q.of_ints q1
          have pl : (D.tup xs).plain = true := by
            rw [Q.D.plain, ex]
            have : ∀ k : List Int, Q.D.plains (k.map D.int) = true := fun k => by
              induction k with
              | nil => rfl
              | cons x k ih => rw [List.map_cons, Q.D.plains, ih]; rfl
            exact this k
          have d1 := dp_of r.head pl
          have e1 : toPy (.tup xs) = tpI k := by
            rw [toPy, ex, toPys_map, List.map_map]
            unfold tpI
            congr 1
          rw [e1] at d1
          exact .cons d1 (tups_dp q2 r.tail)
    | _ => cases h
theorem tups_get : ∀ {ds : List D} {ks : List (List Int)}, Q.tupsD ds = some ks → ∀ {i : Nat} {k : List Int}, ks[i]? = some k → ds[i]? = some (.tup (k.map .int))
  | [], ks, h, i, k, e => by cases h; simp at e
  | d :: ds, ks, h, i, k, e => by
    cases d with
    | tup xs =>
      have h : ((Q.intsD xs).bind fun k => (Q.tupsD ds).map (k :: ·)) = some ks := h
      cases q1 : Q.intsD xs with
      | none => rw [q1] at h; cases h
      | some k1 =>
        rw [q1] at h
        cases q2 : Q.tupsD ds with
        | none => rw [q2] at h; cases h
        | some ks2 =>
          rw [q2] at h
          cases h
          cases i with
          | zero => cases e; rw [Q.of_ints q1]; simp
          | succ i => exact tups_get q2 (by simpa using e)
    | _ => cases h
theorem q_minT (hK : X.K = G.K) (hc : X.calm = true) (hu : X.A.units + 65 < cLine) (hm : X.mg "min" = none) (ha : PE X a (tE G W ea)) (hg : Gl X "min" := by rfl)
    (he : starEach (a :: []) X.env = (false, eval a X.env) :: starEach [] X.env := by rfl) (hpl : (backTo pos (starEach [] X.env)).any (·.1) = false := by rfl) :
    PE X (.Call (.Name "min" p) [a] [] pos) (tE G W (Q.minTx ea)) :=
  (pe_callB (cr_minT hc hu) hg hm (by decide +kernel) (pa_cons ha pa_nil he) (by decide) (by decide) he hpl).conv fun σ H P ⟨fm, pl, env, E, acc⟩ => tE_in E (acc_bind acc) fun pl1 d c m1 v H1 E1 s1 o1 acc1 => by
    obtain ⟨y, c', l, acc2⟩ := acc_rd E1 (o1.at (Ext.refl _)) acc1
    cases y with
    | lst ds =>
      have acc2 : AccR G W fm pl1 (env.wm m1) σ H1 (if ds.length ≤ Q.most then Q.mnS c' m1 (Q.tupsD ds) else .bad) fun _ _ _ _ v H' => P v H' := acc2
      by_cases ql : ds.length ≤ Q.most
      · rw [if_pos ql] at acc2
        cases q : Q.tupsD ds with
        | none => rw [q] at acc2; exact acc2.elim
        | some kk =>
          rw [q] at acc2
          cases kk with
          | nil => exact acc2.elim
          | cons k ks =>
            have acc2 : AccR G W fm pl1 (env.wm m1) σ H1 (.ok (.tup ((Q.minL k ks).map .int)) (Q.part c' (.tup ((Q.minL k ks).map .int))) m1) fun _ _ _ _ v H' => P v H' := acc2
            obtain ⟨p0, vs0, rfl, e0, r0⟩ := l.lst
            refine ⟨p0, vs0, k, ks, rfl, hK ▸ SqL.of e0, hK ▸ tups_dp q r0, fun i v hv hk => ?_⟩
            exact acc2 _ _ H1 E1 (Ext.refl _) (part_ok (r0.2 i v _ hv (tups_get q hk)))
      · rw [if_neg ql] at acc2; exact acc2.elim
    | _ => exact acc2.elim
theorem Reps.reverse {A : Reg} {H : Hp} {vs : List V} {ds : List D} (r : Reps G A H vs ds) : Reps G A H vs.reverse ds.reverse := by
  refine ⟨by rw [List.length_reverse, List.length_reverse]; exact r.1, fun i v d a b => ?_⟩
  have h1 : i < vs.length := by have := (List.getElem?_eq_some_iff.mp a).1; simpa using this
  rw [List.getElem?_reverse h1] at a
  rw [List.getElem?_reverse (by rw [← r.1]; exact h1), ← r.1] at b
  exact r.2 _ v d a b
theorem q_revx {k : Nat} {p1 p2 p3 : Pos} (hK : X.K = G.K) (ha : PE X a (tE G W ea)) : PE X (.Subscript a (.Slice none none (some (.UnaryOp .USub (.Constant (.int 1) k p1) p2)) p3) pos) (tE G W (Q.revx ea)) :=
  (pe_revL ha).conv fun σ H P ⟨fm, pl, env, E, acc⟩ => tE_in E (acc_bind acc) fun pl1 d c m1 v H1 E1 s1 o1 acc1 => by
    obtain ⟨y, c', l, acc2⟩ := acc_rd E1 (o1.at (Ext.refl _)) acc1
    cases y with
    | lst ds =>
      obtain ⟨p0, vs0, rfl, e0, r0⟩ := l.lst
      exact ⟨p0, vs0, rfl, hK ▸ SqL.of e0, fun q hq => acc2 _ _ _ (E1.later (same_new hq)) (ext_new hq) (again_ok E1 r0.reverse hq)⟩
    | _ => exact acc2.elim
end
end QW

set_option Elab.async false
set_option linter.all false
set_option maxRecDepth 100000
set_option maxHeartbeats 4000000
namespace QW
open PySem PySem.Spec PyProof.Rows L2
open Q (D R RA RB Ctl Cl S Mem Pat)
/-! ### l.remove(x), x among the items, data -/
def rRemD (K : PySem.W.Frag) : V → List V → Hp → VK → Prop := fun x xs H P => ∃ (a : Addr) (y : V) (d : PyData) (ds : List PyData) (vs : List V) (j : Nat) (z : PyData), x = V.ref a ∧ xs = [y] ∧ H a = some (.lst vs) ∧ DpAll K H vs ds ∧ Dp K H y d ∧
  SeqAt.shaped (.list ds) = true ∧ SeqAt.shaped d = true ∧ ds[j]? = some z ∧ PyData.eqv z d = true ∧ (∀ (m : Nat) (z' : PyData), m < j → ds[m]? = some z' → PyData.eqv z' d = false) ∧ P .non (upd H a (.lst (vs.eraseIdx j)))
theorem erase_len {α : Type} (l : List α) (j : Nat) : (l.eraseIdx j).length ≤ l.length := by
  rw [List.length_eraseIdx]; split <;> omega
theorem mt_removeD {X : Cx} (hu : X.A.units + 65 < cLine) : MtR X "list.remove" (rRemD X.K) := by
  intro pins s σ H x xs v us P I rx rxs h
  obtain ⟨a, y, d, ds, vs, j, z, rfl, rfl, hH, hds, hy, sl, sd, hz, hzj, hno, q⟩ := h
  cases rx
  obtain ⟨uy, rfl, ry⟩ := rxs.one
  obtain ⟨bs, r1⟩ := Dp.reads I d y uy hy ry
  have lay1 : PyData.canLayAll0 ds = true := SeqAt.canLay_of_shaped sl
  have room : X.A.units + 1 + min (PyData.depthAll ds) d.depth < cLine := room_in_shaped sd hu
  obtain ⟨zl, its, n, rv, hl, ho⟩ := I.lstM hH
  obtain ⟨as, h4⟩ := Dp.readsAll I ds vs its hds rv
  have e0 : its.length = ds.length := SeqAt.ReadsAll.length ds its as h4
  have e1 : its.map (SeqAt.readOf s.heap) = ds := SeqAt.readsAll_map ds its as lay1 h4
  have jd := (List.getElem?_eq_some_iff.mp hz).1
  have js : j < its.toArray.size := by simpa using (by omega : j < its.length)
  have look : ∀ (m : Nat) (hm : m < its.toArray.size) (z' : PyData), ds[m]? = some z' → SeqAt.readOf s.heap its.toArray[m] = z' := by
    intro m hm z' hz'
    have hm2 : m < its.length := by simpa using hm
    rw [← e1, List.getElem?_map, List.getElem?_eq_getElem hm2] at hz'
    have := Option.some.inj hz'
    simpa using this
  have szs : its.toArray.size ≤ sizeLine := by
    have := rv.length
    rw [List.size_toArray]; omega
  refine call_meets PySem.F.slot_list_remove ⟨_, ho, rfl⟩ PySem.F.entry_list_remove (PySem.F.args_list_remove_2 _ _)
    (SeqAt.list_removeAt a its.toArray n none #[] uy (fun u => PyData.eqv (SeqAt.readOf s.heap u) d) j js ?_ ?_ szs) ⟨ho, SeqAt.items_eqAt (vs := its.toArray) (show ReadsAll s.heap its.toArray.toList ds as from h4) r1 lay1 (SeqAt.canLay_of_shaped sd) room, ?_⟩
  · show PyData.eqv (SeqAt.readOf s.heap its.toArray[j]) d = true
    rw [look j js z hz]; exact hzj
  · intro m hm hmj
    have hmd : m < ds.length := by omega
    show PyData.eqv (SeqAt.readOf s.heap its.toArray[m]) d = false
    rw [look m hm _ (List.getElem?_eq_getElem hmd)]
    exact hno m _ hmj (List.getElem?_eq_getElem hmd)
  · refine ⟨.non, _, I.lset (its' := its.eraseIdx j) (t' := s.toks) hH ho ?_ (rv.eraseIdx j) ?_, rfl, q⟩
    · show its.toArray.eraseIdxIfInBounds j = (its.eraseIdx j).toArray
      rw [List.eraseIdxIfInBounds_toArray]
    · have := erase_len vs j
      omega
section
variable {X : Cx} {W : WX} {G : Cfg} {e b : Expr} {ea eb : Q.X} {pos : Pos}
theorem Reps.erase {A : Reg} {H : Hp} {vs : List V} {ds : List D} (r : Reps G A H vs ds) (j : Nat) : Reps G A H (vs.eraseIdx j) (ds.eraseIdx j) := by
  rw [List.eraseIdx_eq_take_drop_succ, List.eraseIdx_eq_take_drop_succ]
  exact (r.take j).append (r.drop (j + 1))
theorem s_rem {i : Nat} {x : Str} {px pa pc : Pos} (hK : X.K = G.K) (hu : X.A.units + 65 < cLine) (he : PE X e (tE G W ea)) (hN : X.N[i]? = some x := by rfl) (hv : Vis X.env.scope x := by first | exact Or.inl rfl | exact Or.inr (Or.inl rfl) | exact Or.inr (Or.inr rfl))
    (hd : (x == ("__debug__" : Str)) = false := by decide) (hcd : (x == ("__classdict__" : Str)) = false := by decide)
    (hbase : attributeBase (.Name x px) "remove" X.env (eval (.Name x px) X.env) = eval (.Name x px) X.env := by rfl)
    (hfew : ((backTo pc (starEach (e :: []) X.env)).all (fun x => !x.1) && (backToKw pc (keywordEach [] X.env)).all (fun x => x.1.isSome)
      && decide ((e :: []).length + ([] : List Keyword).length + (if ([] : List Keyword).isEmpty then 0 else 1) < 30)) = true := by rfl)
    (hline : (pa.endLine == pc.line) = true := by rfl) (hst : starEach (e :: []) X.env = (false, eval e X.env) :: starEach [] X.env := by rfl) (hplain : (backTo pc (starEach [] X.env)).any (·.1) = false := by rfl)
    (hs : swapsWith (.Call (.Attribute (.Name x px) "remove" pa) [e] [] pc) none pos.line X.env = pure false := by rfl) :
    PS X (.Expr (.Call (.Attribute (.Name x px) "remove" pa) [e] [] pc) pos) (tS G W (Q.srem i ea)) :=
  PS.conv (ps_expr (pe_bm PySem.F.plainAttrs_list PySem.F.slot_list_remove PySem.F.type_list_remove (mt_removeD hu) (pv i hN hv hd hcd) (pa_cons he pa_nil hst) hbase hfew hline hst hplain) hs) fun T σ H ⟨fm, pl, env, ks, E, acc⟩ => by
    obtain ⟨d0, q, acc⟩ := hot_slot (k := Q.rmS i ea env) acc rfl (fun s hs => by cases s <;> first | rfl | exact absurd rfl (hs _))
    cases d0 with
    | lst ds =>
      obtain ⟨p, hσ, hp, hn0, vs, hH, rr⟩ := E.slot i _ q
      have hpc : p ∉ pl.cs := fun m => (E.cn p m).2.2 hp
      have acc : AccS G W fm ks T ((ea env).bindS env fun d c m => Q.rmT i (env.wm m) ds (Q.fIndex d (.lst ds))) := acc
      refine ⟨_, hσ, .inl ⟨rfl, _, SqL.of hH⟩, tE_st E (accS_bind E acc) fun pl1 d c m1 v H1 E1 s1 o1 acc1 => ?_⟩
      have hp1 : p ∈ pl1.hs := by rw [s1.hs]; exact hp
      have e0 : Q.fIndex d (.lst ds) = if Q.dataL d ds = true then (ds.findIdx? fun z => Q.D.eqv z d).map fun j => D.int (j : Nat) else none := rfl
      by_cases hd : Q.dataL d ds = true
      · rw [e0, if_pos hd] at acc1
        cases qj : ds.findIdx? fun z => Q.D.eqv z d with
        | none => rw [qj] at acc1; exact acc1.elim
        | some j =>
          rw [qj] at acc1
          have acc1 : AccS G W fm ks T (.nx ((env.wm m1).set i (.hot (.lst (ds.eraseIdx ((j : Nat) : Int).toNat))))) := acc1
          rw [Int.toNat_natCast] at acc1
          obtain ⟨p1, p3, sh1, sh2⟩ := dataL_some hd
          obtain ⟨h1, h2, h3⟩ := List.findIdx?_eq_some_iff_getElem.mp qj
          have hpp := plains_mem p3
          refine ⟨p, v, toPy d, toPys ds, vs, j, toPy ds[j], rfl, rfl, s1.keep _ _ hH hpc, hK ▸ dps_of (rr.sub s1.cold) p3, hK ▸ dp_of o1.anyR p1, sh2, sh1, ?_, ?_, fun m z' hm hz => ?_, acc1 pl1 _ _ (E1.writeSlot (s0 := .hot (.lst ds)) q trivial hσ hp1 trivial ?_)⟩
          · rw [toPys_map, List.getElem?_map, List.getElem?_eq_getElem h1]; rfl
          · rw [eqv_of (hpp _ (List.getElem_mem h1)) p1]; exact h2
          · rw [toPys_map, List.getElem?_map, List.getElem?_eq_getElem (by omega)] at hz
            cases hz
            rw [eqv_of (hpp _ (List.getElem_mem _)) p1]
            have := h3 m hm
            simpa using this
          · exact ⟨p, hσ, hp1, hn0, vs.eraseIdx j, upd_same, ((rr.sub s1.cold).erase j).sub (upd_cold (.inl hp1))⟩
      · rw [e0, if_neg hd] at acc1; exact acc1.elim
    | _ => exact acc.elim
theorem s_ins {i : Nat} {x : Str} {px pa pc : Pos} (hb : PE X b (tE G W eb)) (he : PE X e (tE G W ea)) (hN : X.N[i]? = some x := by rfl) (hv : Vis X.env.scope x := by first | exact Or.inl rfl | exact Or.inr (Or.inl rfl) | exact Or.inr (Or.inr rfl))
    (hd : (x == ("__debug__" : Str)) = false := by decide) (hcd : (x == ("__classdict__" : Str)) = false := by decide)
    (hbase : attributeBase (.Name x px) "insert" X.env (eval (.Name x px) X.env) = eval (.Name x px) X.env := by rfl)
    (hfew : ((backTo pc (starEach (b :: [e]) X.env)).all (fun x => !x.1) && (backToKw pc (keywordEach [] X.env)).all (fun x => x.1.isSome)
      && decide ((b :: [e]).length + ([] : List Keyword).length + (if ([] : List Keyword).isEmpty then 0 else 1) < 30)) = true := by rfl)
    (hline : (pa.endLine == pc.line) = true := by rfl) (hst : starEach (b :: [e]) X.env = (false, eval b X.env) :: starEach [e] X.env := by rfl) (hst2 : starEach (e :: []) X.env = (false, eval e X.env) :: starEach [] X.env := by rfl) (hplain : (backTo pc (starEach [e] X.env)).any (·.1) = false := by rfl)
    (hs : swapsWith (.Call (.Attribute (.Name x px) "insert" pa) [b, e] [] pc) none pos.line X.env = pure false := by rfl) :
    PS X (.Expr (.Call (.Attribute (.Name x px) "insert" pa) [b, e] [] pc) pos) (tS G W (Q.sins i eb ea)) :=
  PS.conv (ps_expr (pe_bm PySem.F.plainAttrs_list PySem.F.slot_list_insert PySem.F.type_list_insert mt_insert (pv i hN hv hd hcd) (pa_cons hb (pa_cons he pa_nil hst2) hst) hbase hfew hline hst hplain) hs) fun T σ H ⟨fm, pl, env, ks, E, acc⟩ => by
    obtain ⟨d0, q, acc⟩ := hot_slot (k := Q.inS i eb ea env) acc rfl (fun s hs => by cases s <;> first | rfl | exact absurd rfl (hs _))
    cases d0 with
    | lst ds =>
      obtain ⟨p, hσ, hp, hn0, vs, hH, rr⟩ := E.slot i _ q
      have hpc : p ∉ pl.cs := fun m => (E.cn p m).2.2 hp
      have acc : AccS G W fm ks T ((eb env).bindS env fun y _ m => (ea (env.wm m)).bindS env fun d c m => if Q.dirty c d = true then .bad else Q.inT i (env.wm m) ds d y) := acc
      refine ⟨_, hσ, .inl ⟨rfl, _, SqL.of hH⟩, tE_st E (accS_bind E acc) fun pl1 y c0 m0 w H0 E0 s0 o0 acc0 => tE_st E0 (accS_bind E0 acc0) fun pl1 d c m1 v H1 E1 s1 o1 acc1 => ?_⟩
      obtain ⟨hd, acc2⟩ := accS_clean acc1
      cases y with
      | int n =>
        have acc2 : AccS G W fm ks T (if (0 ≤ n ∧ n < 4000000000) ∧ ds.length < Q.most then .nx ((env.wm m1).set i (.hot (.lst (ds.take n.toNat ++ [d] ++ ds.drop n.toNat)))) else .bad) := acc2
        by_cases hm : (0 ≤ n ∧ n < 4000000000) ∧ ds.length < Q.most
        · rw [if_pos hm] at acc2
          cases (o0.anyR)
          have s02 := s0.trans s1
          have hp1 : p ∈ pl1.hs := by rw [s02.hs]; exact hp
          have rr2 := rr.sub s02.cold
          refine ⟨p, vs, n, v, rfl, rfl, s02.keep _ _ hH hpc, most_lt (by rw [rr.1]; exact hm.2), hm.1.1, by omega, acc2 pl1 _ _ (E1.writeSlot (s0 := .hot (.lst ds)) q trivial hσ hp1 trivial ?_)⟩
          exact ⟨p, hσ, hp1, hn0, vs.take n.toNat ++ [v] ++ vs.drop n.toNat, upd_same, (((rr2.take n.toNat).append (Reps.cons (o1.clean hd) Reps.nil)).append (rr2.drop n.toNat)).sub (upd_cold (.inl hp1))⟩
        · rw [if_neg hm] at acc2; exact acc2.elim
      | _ => exact acc2.elim
    | _ => exact acc.elim
end
end QW

set_option Elab.async false
set_option linter.all false
set_option maxRecDepth 100000
set_option maxHeartbeats 4000000
namespace QW
open PySem PySem.Spec PyProof.Rows L2
open Q (D R RA RB Ctl Cl S Mem Pat)
section
variable {X : Cx} {G : Cfg} {tg : Expr} {pos : Pos} {x : Str} {i : Nat}
theorem q_ihot (hK : X.K = G.K) (hN : X.N[i]? = some x := by rfl) (hv : Vis X.env.scope x := by first | exact Or.inl rfl | exact Or.inr (Or.inl rfl) | exact Or.inr (Or.inr rfl))
    (hd : (x == ("__debug__" : Str)) = false := by decide) (hcd : (x == ("__classdict__" : Str)) = false := by decide) : PI X tg (.Name x pos) (tL G (Q.ihot i)) :=
  (pi_list (pv i hN hv hd hcd)).conv fun σ H P ⟨fm, pl, env, E, acc⟩ => by
    have acc : AccL G fm pl env σ H (Q.ihS env.mem (env.sl[i]?)) fun _ _ J H' => P J H' := acc
    cases q : env.sl[i]? with
    | none => rw [q] at acc; exact acc.elim
    | some s =>
      rw [q] at acc
      cases s with
      | hot d =>
        cases d with
        | lst ds =>
          obtain ⟨p, hσ, hp, hn0, vs, hH, rr⟩ := E.slot i _ q
          have hpc : p ∉ pl.cs := fun m => (E.cn p m).2.2 hp
          refine ⟨_, hσ, p, rfl, ⟨vs, hK ▸ SqL.of hH⟩, acc pl (Itl X.K p) [] H E (Ext.refl _) (fun s m => by simp at m) fun pl2 H2 k kp sc _ => ?_⟩
          have h2 := kp p _ hH hpc
          have r2 := rr.sub sc
          have sq : SqL X.K H2 p vs := SqL.of h2
          refine ⟨fun hi => ?_, fun hi => ⟨vs, sq, by rw [r2.1, hi]; exact Nat.le_refl _⟩, fun y H' d hy hq => ?_⟩
          · obtain ⟨v, h1, _⟩ := r2.get (List.getElem?_eq_getElem hi)
            exact ⟨vs, v, sq, h1⟩
          · obtain ⟨rfl, hy⟩ := hy
            obtain ⟨v, h1, h3⟩ := r2.get hq
            have e2 := (hy vs sq).symm.trans h1
            cases e2
            exact ⟨Same.refl _, h3.sub sub_new⟩
        | _ => exact acc.elim
      | _ => exact acc.elim
end
end QW

set_option Elab.async false
set_option linter.all false
set_option maxRecDepth 100000
set_option maxHeartbeats 4000000
namespace QW
open PySem PySem.Spec PyProof.Rows L2
open Q (D R RA RB Ctl Cl S Mem Pat)
/-! ### try with several clauses 'except C as n' -/
abbrev Cla := Value × (Addr → Value → Option Addr → TS)
/-- the end of a suite: the name of slot i is gone -/
def offN (i : Nat) (D : Ends) : Ends := { nx := fun σ' H' => D.nx (σ'.set i none) H', rt := D.rt, bk := fun σ' H' => D.bk (σ'.set i none) H', ct := fun σ' H' => D.ct (σ'.set i none) H' }
def wCls (K : PySem.W.Frag) (i : Nat) (out : WX) (D : Ends) : List Cla → WX
  | [] => out
  | q :: r => fun cls dd σ H => ∃ b, PySem.W.exmOne K cls q.1 = some b ∧ (b = true → ∀ e, H e = none → q.2 e cls dd (offN i D) (σ.set i (some (.ref e))) H) ∧ (b = false → wCls K i out D r cls dd σ H)
inductive ClsAs (X : Cx) (n : Str) : List ExceptHandler → List Cla → Prop
  | nil : ClsAs X n [] []
  | cons {x : Str} {c : Value} {ts : Addr → Value → Option Addr → TS} {st : Stmt} {rest : List Stmt} {p1 p2 : Pos} {hs : List ExceptHandler} {l : List Cla} (nc : Names X x c)
      (su : ∀ (e : Addr) (oe : Obj) (cls : Value) (dd : Option Addr) (pn : List (Addr × Obj)), Zc cls dd oe → (∃ vs, oe.data = .fields vs) → PSs (X.suite e ((e, oe) :: pn)) (st :: rest) (ts e cls dd)) (tl : ClsAs X n hs l) :
      ClsAs X n (.ExceptHandler (some (.Name x p1)) (some n) (st :: rest) p2 :: hs) ((c, ts) :: l)
section
variable {X : Cx} {n : Str} {i : Nat} {body : List Stmt} {hd0 : ExceptHandler} {hs : List ExceptHandler} {l : List Cla} {pos : Pos} {tb : WX → TS} {out : WX}
theorem ps_clauses (stk : X.stack = X.env :: X.outer) (fr : X.env.frame = some X.env.locals) (nd : X.N.Nodup) (at_i : X.N[i]? = some n) (loc : X.env.kindOf n = some .local) (tk : Takes X out)
    (bd : ∀ (W : WX) (pn : List (Addr × Obj)) (xe : Value → Shared → Prop), Takes (X.tr pn xe) W → PassesOwn (model X.prog X.w) X.A X.env xe → PSs (X.tr pn xe) body (tb W))
    (cl : ClsAs X n (hd0 :: hs) l) : PS X (.Try body (hd0 :: hs) [] [] pos) (fun D σ H => tb (wCls X.K i out D l) D σ H) := by
  refine ⟨fun pins s σ H D I h => ?_⟩
  have okX := I.ok
  have frs' : X.A.frames = some (X.env :: X.outer) := okX.frames.trans (congrArg some stk)
  refine wpAny_Try_except (wpAny_mono ((bd (wCls X.K i out D l) (X.pn ++ pins) (fun ev s₁ => wpAny (model X.prog X.w) X.A (noteFrame ev X.env) (fun _ s₂ => wpAny (model X.prog X.w) X.A (setFlight ev none) (fun _ s₃ =>
    wpAny (model X.prog X.w) X.A (handleBy ev X.env (hd0 :: hs)) (SP X pins D) X.xe s₃) X.xe s₂) X.xe s₁) (fun ev s' hx => ?_) PassesOwn.looking).run [] s σ H D (I.toTry _) h) (fun fl s1 hq => ?_) (fun ev s1 z => z))
  · obtain ⟨e, B, sI, pn', σ1, H1, cls, dd, rfl, J0, nb, up, sk, ne, os, bare, wish⟩ := hx
    have J : Inv X pins σ1 H1 sI := J0.ofTry okX
    show wpAny (model X.prog X.w) X.A (noteFrame (.ref e) X.env) _ _ _
    refine Sky.land Zc.steady frs' fr (stk ▸ sk) fun h1 fly up1 => ?_
    have J1 : Inv X pins σ1 H1 { s' with heap := h1 } := J.landed nb fly.1 (up.trans up1) os bare
    obtain ⟨o1, vs1, ge1, z1, dt1⟩ := fly.there
    have away : e ∉ frs (X.env :: X.outer) := fun hm => by
      obtain ⟨_, o', ge', nf⟩ := fly.2.2.1.mem hm
      rw [ge1] at ge'; cases ge'
      exact nf _ dt1
    have awayL : e ≠ X.env.locals := fun z => away (List.mem_filterMap.mpr ⟨X.env, List.mem_cons_self, by rw [fr, z]⟩)
    have awayF : e ∉ X.fs := fun hm => by
      obtain ⟨en, hen, q⟩ := List.mem_filterMap.mp hm
      exact away (List.mem_filterMap.mpr ⟨en, List.mem_cons_of_mem _ hen, q⟩)
    have S1 := J1.suite ge1 dt1 ne awayL awayF
    have all : ∀ {hs' : List ExceptHandler} {l' : List Cla}, ClsAs X n hs' l' → wCls X.K i out D l' cls dd σ1 H1 →
        wpAny (model X.prog X.w) X.A (handleBy (.ref e) X.env hs') (SP X pins D) X.xe { s' with heap := h1 } := by
      intro hs' l' k
      induction k with
      | nil =>
        intro wish
        refine wpAny_handleBy_nil ?_
        obtain ⟨_, _, _, oe, vs, T, oT, ts', ge, z, dt, f1, _⟩ := id fly
        unfold PySem.passOn
        refine wpAny_bind (wpAny_field ge dt f1 ?_)
        have nn : ¬ ((Value.ref T == Value.none) = true) := by simp
        rw [if_neg nn]
        have last : wpAny (model X.prog X.w) X.A (setFlight (.ref e) X.env.frame) (fun _ s4 => wpAny (model X.prog X.w) X.A (throw (.ref e) : Sem Flow) (SP X pins D) X.xe s4) X.xe { s' with heap := h1 } := by
          rw [fr]
          exact HandSPX.setFlight_upZ fly fun h4 hh4 up4 => wpAny_throw (tk _ _ ⟨e, B, sI, pins, σ1, H1, cls, dd, rfl, J, nb, (up.trans up1).trans up4, .inr (.inr (by rw [stk]; exact hh4)), ne, os, bare, wish⟩)
        first
          | exact wpAny_bind last
          | exact wpAny_bind (wpAny_pure (wpAny_bind last))
      | @cons x c ts st rest p1 p2 hs2 l2 nc su tl ih =>
        rintro ⟨b, hb, yes, no⟩
        refine wpAny_handleBy_cons (codeAny_handlers_test ?_) (by intro q; cases q)
        have lt : PySem.W.Looks (model X.prog X.w) h1 (typeOf (.ref e)) cls := fun A Q E s k q => wpAny_typeOf_ref (k _ _ ge1) (by rw [z1.1]; exact q)
        have look := PySem.W.exm_one (M := model X.prog X.w) (J1.kIn) lt hb
        have name : ∀ {Q : Value → Shared → Prop} {E : Value → Shared → Prop}, Q c { s' with heap := h1 } → wpAny (model X.prog X.w) (X.A.mark (some (.ref e))) (eval (.Name x p1) X.env) Q E { s' with heap := h1 } := fun {Q E} q => by
          obtain ⟨n1, n2, n3⟩ := nc
          rcases n3 with n3 | ⟨n3, n4, n5⟩
          · exact ld_glob (X := X.suite e ((e, o1) :: (X.pn ++ pins))) S1 n1 n3 q n2
          · exact ld_blt (X := X.suite e ((e, o1) :: (X.pn ++ pins))) S1 n1 n3 n4 q n5 n2
        refine name (look.here ?_)
        cases b with
        | false => exact ih (no rfl)
        | true =>
          refine codeAny_handlers_suite_as (HandSPX.lands_againZ fly fun h2 fly2 up2 => ?_)
          have J2 : Inv X pins σ1 H1 { s' with heap := h2 } := J.landed nb fly2.1 ((up.trans up1).trans up2) os bare
          obtain ⟨o2, vs2, ge2, z2, dt2⟩ := fly2.there
          have S2 := J2.suite ge2 dt2 ne awayL awayF
          refine store_ok (X := X.suite e ((e, o2) :: (X.pn ++ pins))) (v := .ref e) S2 nd at_i (.inl loc) rfl (fun s5 S5 => ?_) (.inr loc)
          refine wpAny_mono ((su e o2 cls dd (X.pn ++ pins) z2 ⟨_, dt2⟩).run [] s5 _ H1 _ S5 (yes rfl e ne)) (fun fl s6 hq => ?_) (fun _ _ z => z.elim)
          have fin : ∀ {σ6 : L2.St} {H6 : Hp} {Q : Shared → Prop}, Inv (X.suite e ((e, o2) :: (X.pn ++ pins))) [] σ6 H6 s6 → (∀ s7, Inv X pins (σ6.set i none) H6 s7 → Q s7) →
              wpAny (model X.prog X.w) X.A (do bindName X.env n .none; unbindBehindTheSuite X.env n p2) (fun _ s7 => Q s7) X.xe s6 := fun {σ6 H6 Q} S6 k => gone_ok (S6.unsuite okX) nd at_i loc k
          cases fl with
          | next => obtain ⟨σ6, H6, S6, q6⟩ := hq; exact fin S6 fun s7 J7 => ⟨_, _, J7, q6⟩
          | brk => obtain ⟨σ6, H6, S6, q6⟩ := hq; exact fin S6 fun s7 J7 => ⟨_, _, J7, q6⟩
          | cont => obtain ⟨σ6, H6, S6, q6⟩ := hq; exact fin S6 fun s7 J7 => ⟨_, _, J7, q6⟩
          | ret u => obtain ⟨v6, σ6, H6, S6, r6, q6⟩ := hq; exact fin S6 fun s7 J7 => ⟨_, _, _, J7, r6, q6⟩
    exact all cl wish
  · cases fl with
    | next => obtain ⟨σ1, H1, J1, q⟩ := hq; exact wpAny_execs_nil ⟨σ1, H1, J1.ofTry okX, q⟩
    | brk => obtain ⟨σ1, H1, J1, q⟩ := hq; exact ⟨σ1, H1, J1.ofTry okX, q⟩
    | cont => obtain ⟨σ1, H1, J1, q⟩ := hq; exact ⟨σ1, H1, J1.ofTry okX, q⟩
    | ret u => obtain ⟨v, σ1, H1, J1, r, q⟩ := hq; exact ⟨v, σ1, H1, J1.ofTry okX, r, q⟩
end
end QW

set_option Elab.async false
set_option linter.all false
set_option maxRecDepth 100000
set_option maxHeartbeats 4000000
namespace QW
open PySem PySem.Spec PyProof.Rows L2
open Q (D R RA RB Ctl Cl S Mem Pat)
inductive ClsQ (X : Cx) (G : Cfg) (n : Str) : List ExceptHandler → List ((Nat → Option Bool) × Q.XS) → Prop
  | nil : ClsQ X G n [] []
  | cons {x : Str} {c : Value} {m : Nat → Option Bool} {h : Q.XS} {st : Stmt} {rest : List Stmt} {p1 p2 : Pos} {hs : List ExceptHandler} {cl : List ((Nat → Option Bool) × Q.XS)}
      (hm : ∀ k b, m k = some b → PySem.W.exmOne X.K (.ref (G.cls k)) c = some b) (nc : Names X x c)
      (su : ∀ (a : Addr) (oe : Obj) (cls : Value) (d : Option Addr) (pn : List (Addr × Obj)), Zc cls d oe → (∃ vs, oe.data = .fields vs) → PSs (X.suite a ((a, oe) :: pn)) (st :: rest) (tS (G.hold (some (a, cls, d))) noW h)) (tl : ClsQ X G n hs cl) :
      ClsQ X G n (.ExceptHandler (some (.Name x p1)) (some n) (st :: rest) p2 :: hs) ((m, h) :: cl)
section
variable {X : Cx} {G : Cfg} {W : WX} {n : Str} {i : Nat} {body : List Stmt} {hd0 : ExceptHandler} {hs : List ExceptHandler} {cl : List ((Nat → Option Bool) × Q.XS)} {pos : Pos} {sb : Q.XS}
/-- what a suite does behind a held error -/
theorem suf_acc {fm : Fm} {pl : Pl} {ks : List (V × D)} {T : Ends} {h : Q.XS} {k : Nat} {fs : List D} {e1 : Q.Env} {cls : Value} {dd : Option Addr} {σ : L2.St} {H : Hp} (E : EnvOk G fm pl e1 ks σ H) (rx : RepX G (Cold fm pl) (New fm pl) H cls dd k fs)
    (acc : AccS G W fm ks T (Q.sufC i (h ((Q.offE e1).set i (.exn k fs))))) (a : Addr) (na : H a = none) : tS (G.hold (some (a, cls, dd))) noW h (offN i T) (σ.set i (some (.ref a))) H := by
  have E2 : EnvOk (G.hold (some (a, cls, dd))) fm pl ((Q.offE e1).set i (.exn k fs)) ks (σ.set i (some (.ref a))) H :=
    EnvOk.putNo (s1 := .exn k fs) (o := some (.ref a)) (E.off alike_hold) (fun z => z) fun _ => ⟨a, cls, dd, rfl, rfl, alike_hold.repX rx⟩
  refine ⟨fm, pl, _, ks, E2, ?_⟩
  have back : ∀ {pl2 : Pl} {e2 : Q.Env} {σ2 : L2.St} {H2 : Hp}, EnvOk (G.hold (some (a, cls, dd))) fm pl2 e2 ks σ2 H2 → EnvOk G fm pl2 ((Q.offE e2).set i .no) ks (σ2.set i none) H2 := fun E3 =>
    EnvOk.putNo (s1 := .no) (o := none) (E3.off alike_unhold) (fun z => z) fun _ => trivial
  cases q2 : h ((Q.offE e1).set i (.exn k fs)) with
  | nx e2 => rw [q2] at acc; exact fun pl2 σ2 H2 E3 => acc pl2 _ H2 (back E3)
  | bk e2 => rw [q2] at acc; exact fun pl2 σ2 H2 E3 => acc pl2 _ H2 (back E3)
  | ct e2 => rw [q2] at acc; exact fun pl2 σ2 H2 E3 => acc pl2 _ H2 (back E3)
  | rt d c e2 => rw [q2] at acc; exact fun v pl2 σ2 H2 E3 r => acc v pl2 _ H2 (back E3) (alike_unhold.rtv r)
  | exc k2 fs2 e2 => rw [q2] at acc; exact acc.elim
  | bad => rw [q2] at acc; exact acc.elim
theorem cls_q (k : ClsQ X G n hs cl) : ∃ l, ClsAs X n hs l ∧ ∀ {fm : Fm} {pl : Pl} {ks : List (V × D)} {T : Ends} {k : Nat} {fs : List D} {e1 : Q.Env} {cls : Value} {dd : Option Addr} {σ : L2.St} {H : Hp}, EnvOk G fm pl e1 ks σ H → RepX G (Cold fm pl) (New fm pl) H cls dd k fs →
    AccS G W fm ks T (Q.tyX i cl k fs e1) → wCls X.K i W T l cls dd σ H := by
  induction k with
  | nil => exact ⟨[], .nil, fun E rx acc => acc _ _ _ _ _ E rx⟩
  | @cons x c m h st rest p1 p2 hs cl hm nc su tl ih =>
    obtain ⟨l, h1, h2⟩ := ih
    refine ⟨(c, fun a cls d => tS (G.hold (some (a, cls, d))) noW h) :: l, .cons nc su h1, fun {fm pl ks T k fs e1 cls dd σ H} E rx acc => ?_⟩
    have acc : AccS G W fm ks T (Q.tyB i h k fs e1 (Q.tyX i cl k fs e1) (m k)) := acc
    cases q : m k with
    | none => rw [q] at acc; exact acc.elim
    | some b =>
      rw [q] at acc
      refine ⟨b, by rw [rx.1]; exact hm k b q, fun hb a na => ?_, fun hb => ?_⟩
      · subst hb
        exact suf_acc E rx acc a na
      · subst hb
        exact h2 E rx acc
theorem s_tryM (hs0 : X.stack = X.env :: X.outer) (hf : X.env.frame = some X.env.locals) (hN : X.N.Nodup) (hi : X.N[i]? = some n) (hln : X.env.kindOf n = some .local) (tk : Takes X W)
    (hbd : ∀ (W' : WX) (pn : List (Addr × Obj)) (xe : Value → Shared → Prop), Takes (X.tr pn xe) W' → PassesOwn (model X.prog X.w) X.A X.env xe → PSs (X.tr pn xe) body (tS G W' sb)) (k : ClsQ X G n (hd0 :: hs) cl) :
    PS X (.Try body (hd0 :: hs) [] [] pos) (tS G W (Q.stryM i cl sb)) := by
  obtain ⟨l, h1, h2⟩ := cls_q (W := W) (i := i) k
  refine PS.conv (ps_clauses (tb := fun W => tS G W sb) hs0 hf hN hi hln tk hbd h1) fun T σ H ⟨fm, pl, env, ks, E, acc⟩ => ⟨fm, pl, env, ks, E, ?_⟩
  have acc : AccS G W fm ks T (Q.trN i cl (sb env)) := acc
  cases q : sb env with
  | nx e => rw [q] at acc; exact acc
  | rt d c e => rw [q] at acc; exact acc
  | bk e => rw [q] at acc; exact acc
  | ct e => rw [q] at acc; exact acc
  | bad => rw [q] at acc; exact acc
  | exc k fs e1 =>
    rw [q] at acc
    intro cls dd pl' σ' H' E' rx
    exact h2 E' rx acc
end
end QW

set_option Elab.async false
set_option linter.all false
set_option maxRecDepth 100000
set_option maxHeartbeats 4000000
namespace QW
open PySem PySem.Spec PyProof.Rows L2
open Q (D R RA RB Ctl Cl S Mem Pat)
/-! ### reversed(l) -/
theorem it_rev {G : Cfg} {K : PySem.W.Frag} (hK : K = G.K) {a : Addr} {ds : List D} {n : Nat} (hn : n = ds.length) : ItOk G (Itv K a n) [(.ref a, .lst ds)] ds.reverse := by
  subst hK hn
  intro A H i hs
  have r := hs _ List.mem_cons_self
  obtain ⟨vs, e, sq, rr⟩ := r.lstSq
  refine ⟨fun hi => ?_, fun hi => ?_, fun x H' d y q => ?_⟩
  · rw [List.length_reverse] at hi
    obtain ⟨v, h1, _⟩ := rr.get (List.getElem?_eq_getElem (show ds.length - 1 - i < ds.length by omega))
    exact ⟨hi, vs, v, sq, h1⟩
  · rw [List.length_reverse] at hi
    exact (by omega : ds.length ≤ i)
  · obtain ⟨rfl, y⟩ := y
    have hi := (List.getElem?_eq_some_iff.mp q).1
    rw [List.length_reverse] at hi
    rw [List.getElem?_reverse hi] at q
    obtain ⟨v, h1, h2⟩ := rr.get q
    have e2 := (y vs sq).symm.trans h1
    cases e2
    exact ⟨Same.refl _, h2.sub sub_new⟩
section
variable {X : Cx} {W : WX} {G : Cfg} {a tg : Expr} {ea : Q.X} {p p2 q pos : Pos}
theorem q_irev (hK : X.K = G.K) (hm : X.mg "reversed" = none) (ha : PE X a (tE G W ea)) (hg : Gl X "reversed" := by rfl) (hs : starEach [a] X.env = (false, eval a X.env) :: starEach [] X.env := by rfl) :
    PI X tg (.Call (.Name "reversed" p) [a] [] pos) (tI G (Q.irev ea)) :=
  (RT.pi_revA hg hm ha hs).conv fun σ H P ⟨fm, pl, env, E, acc⟩ => tE_in E (accI_bind (W := W) acc) fun pl1 d c m1 v H1 E1 s1 o1 acc1 => by
    have cl : ∀ ds, Rep G (Cold fm pl1) H1 v (.lst ds) → AccI G fm pl1 (env.wm m1) σ H1 (RA.ok ds.reverse false m1) (fun _ _ J H' => P J H') → ∃ (b : Addr) (xs : List V), v = .ref b ∧ ((SqL X.K H1 b xs ∧ P (Itv X.K b xs.length) H1) ∨ (SqT X.K H1 b xs ∧ P (RT.ItvT X.K b xs.length) H1)) := fun ds r acc2 => by
      obtain ⟨b, rfl⟩ := r.lst_inv
      obtain ⟨vs, e, sq, rr⟩ := r.lstSq
      exact ⟨b, vs, rfl, .inl ⟨hK ▸ sq, acc2 _ _ [(.ref b, .lst ds)] H1 E1 (Ext.refl _) (fun s m => by simp at m; subst m; exact r) (it_rev hK rr.1)⟩⟩
    cases c with
    | hot => cases d <;> exact acc1.elim
    | taint => cases d <;> exact acc1.elim
    | cold =>
      cases d with
      | lst ds => exact cl ds o1 acc1
      | _ => exact acc1.elim
    | fresh =>
      cases d with
      | lst ds => exact cl ds (o1.clean rfl) acc1
      | _ => exact acc1.elim
end
/-! ### sorted(set(l)) of whole numbers -/
def noSet (w : PySem.World) : Obj := { cls := .type "set", dict := none, data := .set #[] 0 (.fresh 0 0 (!w.params.followText "set-order")) }
section
variable {P : Program} {w : PySem.World} {A : Around} {E : Value → Shared → Prop} {s : Shared}
theorem set_of_list {lx : Addr} {xs : Array Value} (ns : List Int) {Q : Value → Shared → Prop} (calm : A.handled = none) (isl : s.heap.IsList lx xs) (intsX : IntsAre xs.toList ns) (few : ns.length + 1 < scanBound)
    (go : ∀ (h1 : Heap) (tk c : Nat), SetR w h1 s.heap.objs.size (fun j => decide (j ∈ ns)) c → c ≤ ns.length → (∀ b o, s.heap.get? b = some o → h1.get? b = some o) → Q (.ref s.heap.objs.size) { s with heap := h1, toks := tk }) :
    wpAny (model P w) A (call (.type "set") [.ref lx]) Q E s := by
  have size_ : xs.size = ns.length := by
    have z := IntsAre.length intsX
    rwa [Array.length_toList] at z
  obtain ⟨mc, mtl, mmro⟩ := F.called_set.mro
  have made_ := F.called_set.made
  have sub_ := F.called_set.sub
  refine wpAny_call (codeAny_of_tree ?_)
  show wpAny _ _ (callAny (.type "set") _) _ _ _
  refine wpAny_pure ⟨Code.quiet_builtin _ (by decide +kernel), codeAny_builtin F.entry_type_call ?_⟩
  rw [Around.under_plain (weight_type_call_type "set" [.ref lx] []) rfl]
  have nt_ := F.called_set.notType
  have cc_ := F.called_set.canCreate
  have tc_ := F.typeCall_set_1 (.ref lx)
  repeat (any_goals (first | wp_step | assumption))
  have at0 : (s.heap.push (noSet w)).get? s.heap.objs.size = some (noSet w) := Heap.get?_push_size _ rfl
  have lt_ : lx < s.heap.objs.size := by obtain ⟨_, e, _⟩ := isl; exact Heap.lt_size e
  refine codeAny_mono (code_set_led1 (.ref lx) (E := E) (Q₁ := fun v z => v = .ref s.heap.objs.size ∧ z = { s with heap := s.heap.push (noSet w) }) ⟨rfl, rfl⟩) fun res z hz => ?_
  cases res with
  | error e => exact hz
  | ok fl =>
    cases fl with
    | ret v =>
      obtain ⟨rfl, rfl⟩ := hz
      have ty_ : Shared.TypeIs { s with heap := s.heap.push (noSet w) } (.ref s.heap.objs.size) "set" := ⟨_, at0, rfl⟩
      have li_ := F.called_set.init.lookup
      have bi_ := F.called_set.init.bind (.ref s.heap.objs.size)
      repeat (any_goals (first | wp_step | assumption))
      refine codeAny_mono (codeAny_call_builtin (R := wants (fun v z => v = .none ∧ ∃ h1 tk c, z = { s with heap := h1, toks := tk } ∧ SetR w h1 s.heap.objs.size (fun j => decide (j ∈ ns)) c ∧ c ≤ ns.length ∧ ∀ b o, s.heap.get? b = some o → h1.get? b = some o) E)
        F.called_set.init.plain F.entry_set_init (check_set_init_1 ty_ ?_)) fun res2 z2 hz2 => ?_
      · have isl1 : (s.heap.push (noSet w)).IsList lx xs := isl.push _
        obtain ⟨⟨lc, ld, ldt, lsl⟩, e1, e2, ln, e3⟩ := isl1
        simp only at e2 e3
        subst e2 e3
        have n1_ := F.sub_list_set
        have n2_ := F.sub_list_frozenset
        have n3_ : (Value.type "list" == Value.type "dict") = false := by decide
        have isl1 : (s.heap.push (noSet w)).IsList lx xs := isl.push _
        unfold Builtin.«set.__init__»
        unfold noKeywords Builtin.Frozenset.updateFrom
        generalize eP : pyIter = IT
        wp_walk
        subst eP
        have calm3 : A.in1.in1.in1.handled = none := by simp [calm]
        have ne_ : lx ≠ (s.heap.push (noSet w)).objs.size := by rw [Heap.size_push]; exact Nat.ne_of_lt (Nat.lt_succ_of_lt lt_)
        have fr_ : s.heap.objs.size ∉ [(s.heap.push (noSet w)).objs.size, lx] := by
          rw [Heap.size_push]
          simp only [List.mem_cons, List.not_mem_nil, or_false, not_or]
          exact ⟨Nat.ne_of_lt (Nat.lt_succ_self _), Nat.ne_of_gt lt_⟩
        have val_ : ∀ (i : Nat) (v : Value), xs[i]? = some v → ∃ k t, ns[i]? = some k ∧ v = .int k t := fun i v hv => by
          have hi : i < ns.length := by rw [← size_]; exact (Array.getElem?_eq_some_iff.mp hv).1
          obtain ⟨t, e⟩ := PyProof.Rows.IntsAre.int_at intsX i v (by rw [Array.getElem?_toList]; exact hv)
          refine ⟨ns[i], t, List.getElem?_eq_getElem hi, ?_⟩
          rw [e, List.getD_eq_getElem?_getD, List.getElem?_eq_getElem hi]; rfl
        refine wpAny_pyIter_list isl1 (wpAny_bind (wpAny_runValue (set_update_ints ((Walks.list calm3 _ lx ne_ xs).toS) s.heap.objs.size fr_ ns size_ few val_ xs.size 0 _ (Nat.sub_zero _) (Nat.zero_le _)
          ⟨⟨_, Heap.get?_push_size _ rfl, rfl, rfl⟩, isl1.push _⟩ ⟨0, Nat.le_refl 0, setR_new_at (Heap.get?_push_of_some _ at0)⟩ fun z3 c hm hc hS => ?_)))
        obtain ⟨h3, g3, d3, t3, o3⟩ := z3
        have eg : g3 = s.gens := hm.gens
        have ed : d3 = s.drawn := hm.drawn
        have eo : o3 = s.os := hm.os
        subst eg ed eo
        refine wpAny_pure (wpAny_pure ⟨rfl, h3, t3, c, rfl, hS, by rw [← size_]; exact hc, fun b o e => ?_⟩)
        have hb := Heap.lt_size e
        refine hm.heap b o ?_ (Heap.get?_push_of_some _ (Heap.get?_push_of_some _ e))
        rw [Heap.size_push]
        simp only [List.mem_cons, List.not_mem_nil, or_false, not_or]
        exact ⟨Nat.ne_of_lt hb, Nat.ne_of_lt (Nat.lt_succ_of_lt hb)⟩
      · cases res2 with
        | error e => exact hz2
        | ok fl2 =>
          cases fl2 with
          | ret v =>
            obtain ⟨rfl, h1, tk, c, rfl, hS, hc, hk⟩ := hz2
            repeat (any_goals (first | wp_step | assumption))
            exact go _ _ _ hS hc hk
          | _ => exact hz2.elim
    | _ => exact hz.elim
end
end QW

set_option Elab.async false
set_option linter.all false
set_option maxRecDepth 100000
set_option maxHeartbeats 4000000
namespace QW
open PySem PySem.Spec PyProof.Rows L2
open Q (D R RA RB Ctl Cl S Mem Pat)
section
variable {X : Cx} {W : WX} {G : Cfg} {a : Expr} {ea : Q.X} {p p2 q pos : Pos} {ta : TE}
def tSortSet (K : PySem.W.Frag) (ta : TE) : TE := fun σ H P => ta σ H fun x H1 => ∃ (l : Addr) (ns : List Int), x = V.ref l ∧ SqL K H1 l (ns.map V.int) ∧ ns.length < 63 ∧
  ∀ (ys : List Int) (t : Addr), ys.Pairwise (· < ·) → (∀ k : Int, k ∈ ys ↔ k ∈ ns) → H1 t = none → P (.ref t) (upd H1 t (.lst (ys.map V.int)))
theorem sorted_made {pins : List (Addr × Obj)} {σ : L2.St} {H : Hp} {z : Shared} {P : VK} {b : Addr} {S : Int → Bool} {n : Nat} (hc : X.calm = true) (I : Inv X pins σ H z) (R : SetR X.w z.heap b S n) (few : n < 64)
    (go : ∀ (ys : List Int) (t : Addr), ys.Pairwise (· < ·) → (∀ k : Int, k ∈ ys ↔ S k = true) → H t = none → P (.ref t) (upd H t (.lst (ys.map V.int)))) : wpAny (model X.prog X.w) X.A (call (.builtin "sorted") [.ref b]) (EP X pins σ P) X.xe z := by
  refine sorted_set R (I.ok.hd hc) few fun s' t out c ys k g o hp hg hi hs hmm hlen => ?_
  have len : (ys.map V.int).length ≤ sizeLine := by rw [List.length_map, hlen, sizeLine_eq]; omega
  have hn : H t = none := I.hok.fresh hp
  have J : Inv X pins σ (upd H t (.lst (ys.map V.int))) { z with heap := s'.heap, gens := s'.gens, drawn := s'.drawn, toks := s'.toks } :=
    I.call (ch := []) (Un.laid k hp hn) (I.hok.laid k hp ⟨len, out.toList, c, vals_of_ints hi, hg⟩) (by rw [g]; exact I.bare) (fun _ z => nomatch z)
  have e : s' = { z with heap := s'.heap, gens := s'.gens, drawn := s'.drawn, toks := s'.toks } := by
    obtain ⟨_, _, _, _, _⟩ := s'
    obtain ⟨_, _, _, _, _⟩ := z
    cases o
    rfl
  rw [e]
  exact ⟨.ref t, _, J, rfl, go ys t hs hmm hn⟩
theorem pe_sortSet (hc : X.calm = true) (hg : Gl X "sorted") (hm : X.mg "sorted" = none) (hg2 : Gl X "set") (hm2 : X.mg "set" = none) (ha : PE X a ta)
    (na : starEach [a] X.env = (false, eval a X.env) :: starEach [] X.env := by rfl) : PE X (.Call (.Name "sorted" p) [.Call (.Name "set" p2) [a] [] q] [] pos) (tSortSet X.K ta) := by
  refine ⟨fun pins s σ H P I h => Call_ (ld_blt I hg hm (show bootBuiltins "sorted" = some (.builtin "sorted") by decide +kernel) ?_)⟩
  refine PyProof.Rows.callWith_builtin1 (PyProof.Rows.args_cons (Call_ (ld_blt I hg2 hm2 PyProof.Rows.boot_set ?_)) rfl) rfl rfl
  refine PyProof.Rows.callWith_type1 (PyProof.Rows.args_cons (thn (ha.run pins s σ H _ I h) fun v s1 ⟨x, H1, I1, r1, q1⟩ => PyProof.Rows.args_nil ?_) na) na rfl
  obtain ⟨l, ns, rfl, hl, hf, q1⟩ := q1
  cases r1
  obtain ⟨its, rv, pl, hz⟩ := I1.list hl
  refine set_of_list (P := X.prog) (w := X.w) ns (I1.ok.hd hc) pl.isList (by simpa using rv.ints) (by unfold scanBound; omega) fun h1 tk c R hc1 kp => ?_
  have I2 : Inv X pins σ H1 { s1 with heap := h1, toks := tk } := I1.kept kp
  refine PyProof.Rows.args_nil ?_
  exact sorted_made hc I2 R (by omega) fun ys t hs hmm hn => q1 ys t hs (fun k => by rw [hmm k, decide_eq_true_eq]) hn
theorem uniq_mem : ∀ (l : List Int) (k : Int), k ∈ Q.uniqI l ↔ k ∈ l
  | [], k => by simp [Q.uniqI]
  | x :: r, k => by
    unfold Q.uniqI
    split
    · rename_i h
      rw [uniq_mem r k, List.mem_cons]
      exact ⟨.inr, fun z => z.elim (fun z => z ▸ h) id⟩
    · rw [List.mem_cons, List.mem_cons, uniq_mem r k]
theorem uniq_nd : ∀ l : List Int, (Q.uniqI l).Nodup
  | [] => List.nodup_nil
  | x :: r => by
    unfold Q.uniqI
    split
    · exact uniq_nd r
    · rename_i h
      exact List.nodup_cons.mpr ⟨fun z => h ((uniq_mem r x).mp z), uniq_nd r⟩
theorem rise_ext : ∀ {l m : List Int}, l.Pairwise (· < ·) → m.Pairwise (· < ·) → (∀ x, x ∈ l ↔ x ∈ m) → l = m
  | [], [], _, _, _ => rfl
  | [], y :: m, _, _, h => absurd ((h y).mpr List.mem_cons_self) (by simp)
  | x :: l, [], _, _, h => absurd ((h x).mp List.mem_cons_self) (by simp)
  | x :: l, y :: m, hl, hm, h => by
    rw [List.pairwise_cons] at hl hm
    have e : x = y := by
      rcases List.mem_cons.mp ((h x).mp List.mem_cons_self) with e | e
      · exact e
      · rcases List.mem_cons.mp ((h y).mpr List.mem_cons_self) with e2 | e2
        · exact e2.symm
        · have := hm.1 x e; have := hl.1 y e2; omega
    subst e
    rw [rise_ext hl.2 hm.2 fun z => ?_]
    constructor
    · intro hz
      rcases List.mem_cons.mp ((h z).mp (List.mem_cons_of_mem _ hz)) with e | e
      · have := hl.1 z hz; omega
      · exact e
    · intro hz
      rcases List.mem_cons.mp ((h z).mpr (List.mem_cons_of_mem _ hz)) with e | e
      · have := hm.1 z hz; omega
      · exact e
theorem q_sortSet (hK : X.K = G.K) (hc : X.calm = true) (hm : X.mg "sorted" = none) (hm2 : X.mg "set" = none) (ha : PE X a (tE G W ea)) (hg : Gl X "sorted" := by rfl) (hg2 : Gl X "set" := by rfl)
    (na : starEach [a] X.env = (false, eval a X.env) :: starEach [] X.env := by rfl) : PE X (.Call (.Name "sorted" p) [.Call (.Name "set" p2) [a] [] q] [] pos) (tE G W (Q.sortSet ea)) :=
  (pe_sortSet hc hg hm hg2 hm2 ha na).conv fun σ H P ⟨fm, pl, env, E, acc⟩ => tE_in E (acc_bind acc) fun pl1 d c m1 v H1 E1 s1 o1 acc1 => by
    obtain ⟨y, c', l, acc2⟩ := acc_rd E1 (o1.at (Ext.refl _)) acc1
    cases y with
    | lst ds =>
      have acc2 : AccR G W fm pl1 (env.wm m1) σ H1 (Q.ssT m1 (Q.intsD ds)) fun _ _ _ _ v H' => P v H' := acc2
      cases qi : Q.intsD ds with
      | none => rw [qi] at acc2; exact acc2.elim
      | some ns =>
        rw [qi] at acc2
        have acc2 : AccR G W fm pl1 (env.wm m1) σ H1 (if ns.length < 63 then .ok (.lst ((Q.sortI (Q.uniqI ns)).map D.int)) .fresh m1 else .bad) fun _ _ _ _ v H' => P v H' := acc2
        by_cases ql : ns.length < 63
        · rw [if_pos ql] at acc2
          have r := l.any
          obtain ⟨b, rfl⟩ := r.lst_inv
          refine ⟨b, ns, rfl, hK ▸ SqL.of (lst_ints r qi), ql, fun ys t hp hmem ht => ?_⟩
          have e : ys = Q.sortI (Q.uniqI ns) := by
            have pm : (Q.sortI (Q.uniqI ns)).Perm (Q.uniqI ns) := List.mergeSort_perm _ _
            refine rise_ext hp ?_ fun x => by rw [pm.mem_iff, uniq_mem, hmem]
            have nd : (Q.sortI (Q.uniqI ns)).Nodup := pm.nodup_iff.mpr (uniq_nd ns)
            have pw : (Q.sortI (Q.uniqI ns)).Pairwise (· ≤ ·) := by
              refine (List.pairwise_mergeSort (le := fun a b : Int => decide (a ≤ b)) (fun a b c h1 h2 => ?_) (fun a b => ?_) _).imp fun h => of_decide_eq_true h
              · exact decide_eq_true (Int.le_trans (of_decide_eq_true h1) (of_decide_eq_true h2))
              · rw [Bool.or_eq_true, decide_eq_true_eq, decide_eq_true_eq]; omega
            exact List.Pairwise.imp (fun {a b} h => by have := h.1; have := h.2; omega) (List.Pairwise.and pw nd)
          rw [e]
          exact acc2 _ _ _ (E1.later (same_new ht)) (ext_new ht) (fresh_lst E1 (reps_ints _) ht)
        · rw [if_neg ql] at acc2; exact acc2.elim
    | _ => exact acc2.elim
end
end QW

set_option Elab.async false
set_option linter.all false
set_option maxRecDepth 100000
set_option maxHeartbeats 4000000
namespace QW
open PySem PySem.Spec PyProof.Rows L2
open Q (D R RA RB Ctl Cl S Mem Pat)
/-! ### C() of a class without an __init__ of its own -/
structure Mk0 (K : PySem.W.Frag) (C : Addr) : Prop where
  makes : PySem.W.makesIn K C = true
  init : PySem.W.findIn K (.ref C) "__init__" = some (some (.builtin "object.__init__"))
  kp : PySem.W.keepIn K (.ref C) = true
section
variable {X : Cx} {C : Addr} {x : Str} {p pos : Pos} {W : WX} {G : Cfg} {c : Nat}
theorem run_mk0 {pins : List (Addr × Obj)} {σ : L2.St} {H : Hp} {s : Shared} {Q : VK} (M : Mk0 X.K C) (I : Inv X pins σ H s)
    (h : ∀ x dx, H x = none → H dx = none → dx ≠ x → Q (.ref x) (upd (upd H dx (.own x)) x (.ins C dx []))) :
    wpAny (model X.prog X.w) X.A (call (.ref C) []) (EP X pins σ Q) X.xe s := by
  have hq := h (s.heap.objs.size + 1) s.heap.objs.size (I.hok.fresh (Nat.le_succ _)) (I.hok.fresh (Nat.le_refl _)) (Nat.ne_of_lt (Nat.lt_succ_self _))
  have I2 := Inv.made (C := C) I
  have Y := PySem.W.makes_of (M := model X.prog X.w) I.kIn M.makes
  refine wpAny_call (make_map0 I.kIn M.makes M.init (fun self => PySem.W.Looks.of_pure (PySem.W.oi_bind self)) ?_)
  have hx : ((s.heap.push PySem.W.emptyDict).push (PySem.W.instObj C s.heap.objs.size)).get? (s.heap.objs.size + 1) = some (PySem.W.instObj C s.heap.objs.size) := by
    have z := Heap.get?_push_size (s.heap.push PySem.W.emptyDict) (o := PySem.W.instObj C s.heap.objs.size) rfl
    rwa [Heap.size_push] at z
  have t1 : PySem.W.Looks (model X.prog X.w) ((s.heap.push PySem.W.emptyDict).push (PySem.W.instObj C s.heap.objs.size)) (typeOf (.ref (s.heap.objs.size + 1))) (.ref C) := (PySem.W.Looks.ld hx).andThen .now
  have t2 : PySem.W.Looks (model X.prog X.w) ((s.heap.push PySem.W.emptyDict).push (PySem.W.instObj C s.heap.objs.size)) (isInstance (.ref (s.heap.objs.size + 1)) (.type "object")) true := t1.andThen (Y.top.keeps fun b o e => Heap.get?_push_of_some _ (Heap.get?_push_of_some _ e))
  refine codeAny_call_builtin PySem.W.oi_plain PySem.W.entry_oi (@PySem.W.check_slot (model X.prog X.w) _ _ _ "object.__init__" "object" "__init__" (.ref (s.heap.objs.size + 1)) [] [] _ PySem.W.oi_kind PySem.W.oi_split t2 (PySem.W.oi_args (.ref (s.heap.objs.size + 1))) ?_)
  rw [PySem.W.oi_run]
  exact wpAny_pure (And.intro rfl ⟨V.ref (s.heap.objs.size + 1), _, I2, rfl, hq⟩)
def tMk0 (C : Addr) : TE := fun σ H Q => ∀ x dx, H x = none → H dx = none → dx ≠ x → Q (.ref x) (upd (upd H dx (.own x)) x (.ins C dx []))
theorem pe_mk0 (M : Mk0 X.K C) (hm : X.mg x = some (.ref C)) (hg : Gl X x := by rfl) (hdb : (x == ("__debug__" : Str)) = false := by decide) : PE X (.Call (.Name x p) [] [] pos) (tMk0 C) := by
  refine ⟨fun pins s σ H Q I h => ?_⟩
  refine wpAny_Call_Name_kw (ld_glob I hg hm ?_ hdb)
  exact PySem.W.callWith_K0 I.kIn M.kp (run_mk0 M I h)
theorem q_mk0 (M : Mk0 X.K (G.cls c)) (hm : X.mg x = some (.ref (G.cls c))) (hg : Gl X x := by rfl) (hdb : (x == ("__debug__" : Str)) = false := by decide) : PE X (.Call (.Name x p) [] [] pos) (tE G W (Q.mk0 c)) :=
  (pe_mk0 M hm hg hdb).conv fun σ H P ⟨fm, pl, env, E, acc⟩ q dx hq hdx hne => by
    have s0 : Same H (L2.upd (L2.upd H dx (.own q)) q (.ins (G.cls c) dx [])) := fun b o e => by
      rw [upd_ne (ne_of_none e hq), upd_ne (ne_of_none e hdx)]
      exact e
    refine acc pl (.ref q) _ (E.later s0) (ext_same s0) ⟨q, rfl, hq, E.newCold hq, ⟨dx, [], by rw [upd_same, List.zip_nil_right], Reps.nil⟩, ?_⟩
    exact E.mem.sub ⟨fun a o h e => ⟨⟨h, fun z => by rw [z, hq] at e; cases e⟩, s0 a o e⟩, List.prefix_refl _⟩ rfl fun a _ o e => s0 a o e
end
/-! ### enumerate(l), zip(l, m) -/
theorem enumD_get {ds : List D} {i : Nat} {d : D} (h : (Q.enumD ds)[i]? = some d) : ∃ x, ds[i]? = some x ∧ d = .tup [.int (i : Nat), x] := by
  unfold Q.enumD at h
  rw [List.getElem?_map, List.getElem?_zipIdx] at h
  cases q : ds[i]? with
  | none => rw [q] at h; cases h
  | some x => rw [q] at h; exact ⟨x, rfl, by simpa using (Option.some.inj h).symm⟩
theorem pair_rep {G : Cfg} {A : Reg} {H : Hp} {x y : V} {a b : D} {T : Addr} (hT : H T = none) (r1 : Rep G A H x a) (r2 : Rep G A H y b) : Rep G (A.new H) (upd H T (.tup [x, y])) (.ref T) (.tup [a, b]) := by
  have s : Sub A H (A.new H) (upd H T (.tup [x, y])) := ⟨fun q o h e => ⟨.inl h, by rw [upd_ne (ne_of_none e hT)]; exact e⟩, List.prefix_refl _⟩
  have rr : Reps G (A.new H) (upd H T (.tup [x, y])) [x, y] [a, b] := .cons (r1.sub s) (.cons (r2.sub s) .nil)
  exact .tup (.inr hT) upd_same rr.1 rr.2
theorem it_enum {G : Cfg} {K : PySem.W.Frag} (hK : K = G.K) {a : Addr} {ds : List D} : ItOk G (Ite K a) [(.ref a, .lst ds)] (Q.enumD ds) := by
  subst hK
  intro A H i hs
  have r := hs _ List.mem_cons_self
  obtain ⟨vs, e, sq, rr⟩ := r.lstSq
  have hl : (Q.enumD ds).length = ds.length := by unfold Q.enumD; rw [List.length_map, List.length_zipIdx]
  refine ⟨fun hi => ?_, fun hi => ⟨vs, sq, by rw [rr.1, hi, hl]; exact Nat.le_refl _⟩, fun x H' d y q => ?_⟩
  · obtain ⟨v, h1, _⟩ := rr.get (List.getElem?_eq_getElem (hl ▸ hi))
    exact ⟨vs, v, sq, h1⟩
  · obtain ⟨T, w, rfl, hT, rfl, y⟩ := y
    obtain ⟨z, q1, rfl⟩ := enumD_get q
    obtain ⟨v, h1, h2⟩ := rr.get q1
    have e2 := (y vs sq).symm.trans h1
    cases e2
    exact ⟨same_new hT, pair_rep hT (.int _) h2⟩
section
variable {X : Cx} {W : WX} {G : Cfg} {a b : Expr} {ea eb : Q.X} {p pos tpos : Pos} {elts : List Expr} {kk : Nat}
theorem q_ienum (hK : X.K = G.K) (hm : X.mg "enumerate" = none) (ha : PE X a (tE G W ea)) (hg : Gl X "enumerate" := by rfl) (hs : starEach [a] X.env = [(false, eval a X.env)] := by rfl) :
    PI X (.Tuple elts kk tpos) (.Call (.Name "enumerate" p) [a] [] pos) (tI G (Q.ienum ea)) :=
  (pi_enum hg hm (pa_cons ha pa_nil hs) hs).conv fun σ H P ⟨fm, pl, env, E, acc⟩ => tE_in E (accI_bind (W := W) acc) fun pl1 d c m1 v H1 E1 s1 o1 acc1 => by
    have cl : ∀ ds, Rep G (Cold fm pl1) H1 v (.lst ds) → AccI G fm pl1 (env.wm m1) σ H1 (RA.ok (Q.enumD ds) false m1) (fun _ _ J H' => P J H') → ∃ (b : Addr) (xs : List V), [v] = [.ref b] ∧ SqL X.K H1 b xs ∧ P (Ite X.K b) H1 := fun ds r acc2 => by
      obtain ⟨b, rfl⟩ := r.lst_inv
      obtain ⟨vs, e, sq, rr⟩ := r.lstSq
      exact ⟨b, vs, rfl, hK ▸ sq, acc2 _ _ [(.ref b, .lst ds)] H1 E1 (Ext.refl _) (fun s m => by simp at m; subst m; exact r) (it_enum hK)⟩
    cases c with
    | hot => cases d <;> exact acc1.elim
    | taint => cases d <;> exact acc1.elim
    | cold =>
      cases d with
      | lst ds => exact cl ds o1 acc1
      | _ => exact acc1.elim
    | fresh =>
      cases d with
      | lst ds => exact cl ds (o1.clean rfl) acc1
      | _ => exact acc1.elim
end
/-! ### int(x) of numbers and truths -/
section
variable {X : Cx} {W : WX} {G : Cfg} {a : Expr} {ea : Q.X} {p pos : Pos}
theorem q_int1 (hm : X.mg "int" = none) (ha : PE X a (tE G W ea)) (hg : Gl X "int" := by rfl) (he : starEach (a :: []) X.env = (false, eval a X.env) :: starEach [] X.env := by rfl) :
    PE X (.Call (.Name "int" p) [a] [] pos) (tE G W (Q.op1 Q.fInt ea)) :=
  (pe_callTy call_int1 hg hm (by decide +kernel) (pa_cons ha pa_nil he) (he := he)).conv fun σ H P ⟨fm, pl, env, E, acc⟩ => tE_in E (acc_bind acc) fun pl1 d c m1 v H1 E1 s1 o1 acc1 => by
    obtain ⟨y, c', l, acc2⟩ := acc_rd E1 (o1.at (Ext.refl _)) acc1
    obtain ⟨z, q, acc3⟩ := ofO_some acc2
    cases y with
    | int i =>
      cases q
      have r := l.any.int_inv
      subst r
      exact .inl ⟨i, rfl, acc3 _ _ H1 E1 (Ext.refl _) (.int _)⟩
    | bl b =>
      cases q
      have r := l.any.bl_inv
      subst r
      refine .inr ⟨b, rfl, acc3 _ _ H1 E1 (Ext.refl _) ?_⟩
      cases b <;> exact .int _
    | _ => cases q
end
/-! ### < of two numbers, or of two tuples of numbers -/
def rLtA (K : PySem.W.Frag) : R2 := fun x y H P => rI0 (fun i j => .bl (decide (i < j))) x y H P ∨ rLtT K x y H P
theorem op_ltA {X : Cx} (hu : X.A.units + 64 < cLine) : OpR X (compareOp .Lt) (rLtA X.K) := op_or (o := fun _ _ _ _ => True) op_lt (op_ltT (by omega))
theorem od_ltA {G : Cfg} : OpD G (rLtA G.K) Q.opLtA := fun x y z h => by
  cases x with
  | int i =>
    cases y with
    | int j =>
      obtain ⟨s, k⟩ := od_lt (G := G) (.int i) (.int j) z h
      refine ⟨s, fun A H vx vy rx ry => ?_⟩
      obtain ⟨vz, r, k⟩ := k A H vx vy rx ry
      exact ⟨vz, r, fun P q => .inl (k P q)⟩
    | _ => cases h
  | tup xs =>
    cases y with
    | tup ys =>
      obtain ⟨s, k⟩ := od_ltT (G := G) (.tup xs) (.tup ys) z h
      refine ⟨s, fun A H vx vy rx ry => ?_⟩
      obtain ⟨vz, r, k⟩ := k A H vx vy rx ry
      exact ⟨vz, r, fun P q => .inr (k P q)⟩
    | _ => cases h
  | _ => cases y <;> cases h
/-! ### * of great numbers -/
def CMulB (i j : Int) : Prop := i.natAbs.log2 < 4000000 ∧ j.natAbs.log2 < 4000000
theorem CMulB.ok {i j : Int} (h : CMulB i j) : IntMulOk i j := by
  have b : ∀ x : Int, Builtin.Int.intBits x ≤ x.natAbs.log2 + 1 := fun x => by
    unfold Builtin.Int.intBits
    split <;> omega
  have h1 := b i
  have h2 := b j
  have h3 := h.1
  have h4 := h.2
  have e : bitsLine = 134217728 := by decide
  unfold IntMulOk
  intro z
  rw [Bool.and_eq_true] at z
  have z2 := z.2
  unfold Builtin.Int.intTooBig at z2
  have z3 := of_decide_eq_true z2
  rw [e] at z3
  omega
theorem op_mulB {X : Cx} : OpR X (binaryOp .Mult) (rI CMulB fun i j => .int (i * j)) := opI fun _ _ _ _ _ _ _ hc q => mul_int q hc.ok
theorem od_mulB {G : Cfg} : OpD G (rI CMulB fun i j => .int (i * j)) Q.opMulB := fun x y z h => by
  cases x with
  | int i =>
    cases y with
    | int j =>
      have h : (if (Q.wideI i && Q.wideI j) = true then some (D.int (i * j)) else none) = some z := h
      by_cases c : (Q.wideI i && Q.wideI j) = true
      · rw [if_pos c] at h
        cases h
        rw [Bool.and_eq_true] at c
        refine ⟨rfl, fun A H vx vy rx ry => ?_⟩
        cases rx; cases ry
        exact ⟨_, .int _, fun P p => ⟨_, _, rfl, rfl, ⟨of_decide_eq_true c.1, of_decide_eq_true c.2⟩, p⟩⟩
      · rw [if_neg c] at h; cases h
    | _ => cases h
  | _ => cases y <;> cases h
/-! ### the end, with the script's bits -/
def spLawB (K : PySem.W.Frag) : Sp := fun vs H P _ => ∃ (a : Addr) (ns : List Int), vs = [.ref a] ∧ SqL K H a (ns.map V.int) ∧ ns.length ≤ 63 ∧ (∀ z ∈ ns, Builtin.Int.intBits z ≤ 1048576) ∧ ∀ H', P (.bl true) H'
theorem bits_log {z : Int} (h : Builtin.Int.intBits z ≤ 1048576) : z.natAbs.log2 < 2000000 := by
  unfold Builtin.Int.intBits at h
  split at h
  · rename_i q
    have e : z.natAbs = 0 := by simpa using q
    rw [e]; decide
  · omega
theorem law_endB {P : Program} {w : PySem.World} {G : Cfg} {mg : Str → Option Value} {base : Heap} {k : Nat} {f : Addr} {fd : FuncData} {g : Q.F} (F : FnOk P w G.K mg base (L2.CX P w) k f fd ["script"] (spF G 1 g))
    (h : ∀ ns : List Int, ns.length ≤ 63 → (∀ z ∈ ns, Q.bitsI z) → ∃ c m, g [.frz ns] [] = .ok (.bl true) c m) : FnOk P w G.K mg base (L2.CX P w) k f fd ["script"] (spLawB G.K) :=
  F.imp fun vs H Q E ⟨a, ns, e, hs, hl, hb, q⟩ => by
    subst e
    obtain ⟨c, m, hc⟩ := h ns hl fun z hz => bits_log (hb z hz)
    refine ⟨⟨fun _ => True, []⟩, [], [], [.frz ns], rfl, ⟨⟨rfl, fun n d e => by simp at e, fun n k d e p a => by simp at a⟩, fun a h => by simp at h⟩, Reps.cons (Rep.of_frz trivial hs) Reps.nil, ?_⟩
    rw [hc]
    intro v H' cs' mu' F M r
    have e : v = .bl true := by
      cases c with
      | fresh => obtain ⟨_, _, _, _, z, _⟩ := r; exact z.elim
      | cold => exact Rep.bl_inv r
      | hot => exact Rep.bl_inv r
      | taint => exact Rep.bl_inv r
    rw [e]
    exact q H'
end QW

set_option Elab.async false
set_option linter.all false
set_option maxRecDepth 100000
set_option maxHeartbeats 4000000
namespace QW
open PySem PySem.Spec PyProof.Rows L2
open Q (D R RA RB Ctl Cl S Mem Pat)
/-! ### sorted(l, key=f), f a def that tells whole numbers, all of them unlike -/
theorem perm_lift {α β : Type} {f : α → β} {ps qs : List β} (h : ps.Perm qs) : ∀ {L : List α}, qs = L.map f → ∃ M : List α, M.Perm L ∧ ps = M.map f := by
  induction h with
  | nil => intro L e; exact ⟨L, .refl _, e⟩
  | cons x h ih =>
    intro L e
    cases L with
    | nil => cases e
    | cons a L =>
      injection e with e1 e2
      obtain ⟨M, m1, m2⟩ := ih e2
      exact ⟨a :: M, m1.cons a, by rw [List.map_cons, ← e1, ← m2]⟩
  | swap x y l =>
    intro L e
    match L, e with
    | a :: b :: L, e =>
      injection e with e1 e
      injection e with e2 e3
      exact ⟨b :: a :: L, .swap a b L, by rw [List.map_cons, List.map_cons, ← e1, ← e2, ← e3]⟩
  | trans h1 h2 ih1 ih2 =>
    intro L e
    obtain ⟨M, m1, m2⟩ := ih2 e
    obtain ⟨M', n1, n2⟩ := ih1 m2
    exact ⟨M', n1.trans m1, n2⟩
theorem vals_trip : ∀ {xs : List V} {us : List Value}, Vals xs us → ∀ {kz : List Int}, kz.length = us.length → ∃ L : List (Int × Value × V), L.map (fun t => (t.1, t.2.1)) = kz.zip us ∧ L.map (fun t => (t.1, t.2.2)) = kz.zip xs ∧ ∀ t ∈ L, RelV t.2.2 t.2.1
  | [], _, .nil, kz, h => ⟨[], by simp, by simp, fun t m => by simp at m⟩
  | x :: xs, _, .cons r t, [], h => by simp at h
  | x :: xs, _, .cons r t, k :: kz, h => by
    obtain ⟨L, a, b, c⟩ := vals_trip t (kz := kz) (by simpa using h)
    refine ⟨(k, _, x) :: L, by rw [List.map_cons, a]; rfl, by rw [List.map_cons, b]; rfl, fun t m => ?_⟩
    rcases List.mem_cons.mp m with rfl | m
    · exact r
    · exact c t m
theorem vals_maps : ∀ {M : List (Int × Value × V)}, (∀ t ∈ M, RelV t.2.2 t.2.1) → Vals (M.map (·.2.2)) (M.map (·.2.1))
  | [], _ => .nil
  | t :: M, h => .cons (h t List.mem_cons_self) (vals_maps fun u m => h u (List.mem_cons_of_mem _ m))
abbrev sl (kA : Array Value) (e : Nat) : Obj := seqObj "list" kA e
abbrev skp (kS : Addr) (kA : Array Value) (e : Nat) (a : Addr) (e1 : Nat) : List (Addr × Obj) := [(kS, sl kA e), (a, sl #[] e1)]
theorem sl_cell {kA : Array Value} {e : Nat} : ∀ v, (sl kA e).data ≠ .cell v := fun v z => by cases z
section
variable {X : Cx} {pins : List (Addr × Obj)} {σ : L2.St} {H : Hp} {A : Around} {s : Shared} {kS a : Addr} {vs : List Value} {xs : List V} {kz : List Int} {keys : Array Value} {e e1 : Nat} {P : PySem.Fin → Shared → Prop} {E : Value → Shared → Prop}
theorem fp_base (ok : X.Ok) {b : Addr} (h : FpOk X pins H b) : X.base.get? b = none := by
  cases q : X.base.get? b with
  | none => rfl
  | some o =>
    rcases h.2.2.2.1 with z | z
    · exact absurd z (ok.noex b o q)
    · exact absurd (Nat.lt_of_lt_of_le (Nat.lt_of_lt_of_le (Heap.lt_size q) ok.bsz) z) (Nat.lt_irrefl _)
theorem sk_end (J : Inv X (pins ++ skp kS keys e a e1) σ H s) (f1 : FpOk X pins H kS) (f2 : FpOk X pins H a) (hka : kS ≠ a) (hv : Vals xs vs) (hl : kz.length = vs.length) (hZ : vs.length ≤ sizeLine) (hk : IntsAre keys.toList kz)
    (fin : ∀ s' ps, List.Perm ps (kz.zip xs) → ps.Pairwise (fun p q => p.1 ≤ q.1) → Inv X pins σ (upd H a (.lst (ps.map (·.2)))) s' → P (.done (.ret .none)) s') :
    wpAny (model X.prog X.w) A (ksk_end a false vs.toArray e1 (.ref kS) keys) P E s := by
  obtain ⟨m, F⟩ := J.fr
  have pk := J.pin (kS, sl keys e) (List.mem_append_right _ (List.mem_append_right _ (by simp)))
  have pa := J.pin (a, sl #[] e1) (List.mem_append_right _ (List.mem_append_right _ (by simp)))
  obtain ⟨news, hnews⟩ : ∃ news : List (Addr × Obj), ∀ b o, (b, o) ∈ news ↔ s.heap.get? b = some o ∧ X.base.get? b = none ∧ b ≠ X.env.locals ∧ b ≠ kS ∧ b ≠ a := by
    refine ⟨(List.range s.heap.objs.size).filterMap fun b => if X.base.get? b = none ∧ b ≠ X.env.locals ∧ b ≠ kS ∧ b ≠ a then (s.heap.get? b).map (fun o => (b, o)) else none, fun b o => ?_⟩
    rw [List.mem_filterMap]
    constructor
    · rintro ⟨c, _, h⟩
      split at h
      · rename_i q
        cases q0 : s.heap.get? c with
        | none => rw [q0] at h; cases h
        | some o' => rw [q0] at h; cases h; exact ⟨q0, q⟩
      · cases h
    · rintro ⟨h, q⟩
      exact ⟨b, List.mem_range.mpr (Heap.lt_size h), by rw [if_pos q, h]; rfl⟩
  have N : News X.base X.env.locals s.heap (news ++ skp kS keys e a e1) := fun p hp => by
    rcases List.mem_append.mp hp with hp | hp
    · obtain ⟨h1, h2, h3, _⟩ := (hnews p.1 p.2).mp hp
      exact ⟨h1, h3, h2⟩
    · rcases List.mem_cons.mp hp with rfl | hp
      · exact ⟨pk.1, f1.2.1, fp_base J.ok f1⟩
      · rw [List.mem_singleton.mp hp]
        exact ⟨pa.1, f2.2.1, fp_base J.ok f2⟩
  refine ksk_end_Any F N hka (fun p hp => ((hnews p.1 p.2).mp hp).2.2.2.1) (fun p hp => ((hnews p.1 p.2).mp hp).2.2.2.2) hk hl hZ fun h' tk out c F' N' ko => ?_
  obtain ⟨ps0, p1, p2, p3⟩ := ko
  obtain ⟨L, l1, l2, l3⟩ := vals_trip hv hl
  obtain ⟨M, m1, m2⟩ := perm_lift p1 l1.symm
  have hM : ∀ t ∈ M, RelV t.2.2 t.2.1 := fun t ht => l3 t (m1.mem_iff.mp ht)
  have ho : out.toList = M.map (·.2.1) := by rw [p2, m2, List.map_map]; rfl
  have hw : (M.map fun t => (t.1, t.2.2)).map (·.2) = M.map (·.2.2) := by rw [List.map_map]; rfl
  refine fin _ (M.map fun t => (t.1, t.2.2)) (by rw [← l2]; exact m1.map _) ?_ ?_
  · rw [m2, List.pairwise_map] at p3
    rw [List.pairwise_map]
    exact p3
  have keep : ∀ b o, b ≠ X.env.locals → b ∉ [kS, a] → s.heap.get? b = some o → h'.get? b = some o := fun b o hL hc ho => by
    cases q : X.base.get? b with
    | some o' =>
      have e1 := J.bk b o' q
      rw [ho] at e1
      cases e1
      exact F'.keep b o q
    | none =>
      simp only [List.mem_cons, List.not_mem_nil, or_false, not_or] at hc
      exact (N' (b, o) (List.mem_cons_of_mem _ ((hnews b o).mpr ⟨ho, q, hL, hc⟩))).1
  have na : H a = none := f2.1
  have ga := (N' (a, seqObj "list" out c) List.mem_cons_self).1
  rw [hw]
  refine J.unpinned.step (g' := s.gens) (d' := s.drawn) (ch := [kS, a]) (fun b hb => ?_) (fun b o hL _ hc ho _ => keep b o hL hc ho) (fun b o hL _ hc ho _ => ⟨o.slots, keep b o hL hc ho⟩) (fun b o hc _ hn => ?_) (fun b o hc ho => ?_) (fun b ys q => ?_) (fun b o u q => ?_) (fun b ys q => ⟨#[], ?_⟩) (fun m' hm => ?_) (fun b u q => ?_) J.bare
  · rcases List.mem_cons.mp hb with rfl | hb
    · exact ⟨f1.2.2.2.1, f1.2.1, f1.2.2.2.2.1, f1.2.2.2.2.2⟩
    · rw [List.mem_singleton.mp hb]
      exact ⟨f2.2.2.2.1, f2.2.1, f2.2.2.2.2.1, f2.2.2.2.2.2⟩
  · rw [upd_ne (fun z => hc (by rw [z]; simp))]
    exact hn
  · by_cases hL : b = X.env.locals
    · obtain ⟨o', _, _, q, _⟩ := F'.ns
      exact ⟨o', by rw [hL]; exact q⟩
    · exact ⟨o, keep b o hL hc ho⟩
  · rw [upd_ne (ne_of_none q na)]
    exact q
  · rw [upd_ne (ne_of_none q na)]
    exact q
  · rw [upd_ne (ne_of_none q na), q]
    simp
  · have : m' = m := funext fun x => hm.agree F.ns x
    rw [this]
    exact F'.ns
  · by_cases hb : b = a
    · subst hb
      rw [upd_same] at q
      cases q
      refine ⟨by rw [List.length_map, m1.length_eq, ← List.length_map (f := fun t : Int × Value × V => (t.1, t.2.1)), l1, List.length_zip]; omega, out.toList, c, by rw [ho]; exact vals_maps hM, ?_⟩
      rw [Array.toArray_toList]
      exact ga
    · rw [upd_ne hb] at q
      refine (J.hok b u q).stay (fun d v hc hd => keep d v ?_ ?_ hd) (fun d hd => by rw [upd_ne (ne_of_none hd na)]; exact hd) fun d ys hd => by rw [upd_ne (ne_of_none hd na)]; exact hd
      · intro z
        rcases hc with hc | hc
        · rw [hc] at z; rw [z, J.free] at q; cases q
        · rw [z, J.free] at hc; cases hc
      · intro z
        have nn : H d = none := by
          rcases List.mem_cons.mp z with z | z
          · rw [z]; exact f1.1
          · rw [List.mem_singleton.mp z]; exact na
        rcases hc with hc | hc
        · rw [← hc, nn] at q; cases q
        · rw [nn] at hc; cases hc
end
section
variable {X : Cx} {pins : List (Addr × Obj)} {σ : L2.St} {H : Hp} {A : Around} {s : Shared} {kS a : Addr} {vs : List Value} {xs : List V} {kz : List Int} {kA : Array Value} {e e1 n k : Nat} {P : PySem.Fin → Shared → Prop} {E : Value → Shared → Prop}
theorem sk_put {v : Value} {Q : Unit → Shared → Prop} (J : Inv X (pins ++ skp kS kA e a e1) σ H s) (f1 : FpOk X pins H kS) (hka : kS ≠ a) (hz : kA.size + 1 ≤ sizeLine) (q : ∀ s' c, Inv X (pins ++ skp kS (kA.push v) c a e1) σ H s' → Q () s') :
    wpAny (model X.prog X.w) A (Builtin.List.listUpdate (.ref kS) (·.push v)) Q E s := by
  have pk := J.pin (kS, sl kA e) (List.mem_append_right _ (List.mem_append_right _ (by simp)))
  have pa := J.pin (a, sl #[] e1) (List.mem_append_right _ (List.mem_append_right _ (by simp)))
  have hs : (kA.push v).size ≤ sizeLine := by rw [Array.size_push]; exact hz
  refine listUpdate_at pk.1 rfl ?_ (Nat.le_of_succ_le hz) (Nat.le_succ_of_le hs)
  obtain ⟨c, hc⟩ : ∃ c, (s.heap.update kS (Obj.mapSeq (·.push v))).get? kS = some (sl (kA.push v) c) := ⟨_, get?_update_seq pk.1 _⟩
  have old : ∀ b o, b ≠ kS → s.heap.get? b = some o → (s.heap.update kS (Obj.mapSeq (·.push v))).get? b = some o := fun b o h e => (Heap.get?_update_ne _ _ _ _ h).trans e
  have J2 : Inv X pins σ H { s with heap := s.heap.update kS (Obj.mapSeq (·.push v)), toks := s.toks } := J.unpinned.turned (it := kS) old f1.1 f1.2.1 f1.2.2.2.1 f1.2.2.2.2.1 f1.2.2.2.2.2
  refine q _ c (J2.pins_of fun p hp => ?_)
  rcases List.mem_append.mp hp with hp | hp
  · exact J2.pin p (List.mem_append_right _ hp)
  · rcases List.mem_cons.mp hp with rfl | hp
    · exact ⟨hc, pk.2.1, pk.2.2.1, pk.2.2.2.1, sl_cell⟩
    · rw [List.mem_singleton.mp hp]
      exact ⟨old _ _ hka.symm pa.1, pa.2.1, pa.2.2.1, pa.2.2.2.1, sl_cell⟩
def SkJ (X : Cx) (pins : List (Addr × Obj)) (σ : L2.St) (H : Hp) (kS a : Addr) (e1 : Nat) (kz : List Int) (i : Nat) (s : Shared) : Prop :=
  ∃ H' kA e, Inv X (pins ++ skp kS kA e a e1) σ H' s ∧ Same H H' ∧ IntsAre kA.toList (kz.take i)
theorem sk_rest {f : Value} (J : SkJ X pins σ H kS a e1 kz 0 s) (f1 : FpOk X pins H kS) (f2 : FpOk X pins H a) (hka : kS ≠ a) (hv : Vals xs vs) (hl : kz.length = vs.length) (hZ : vs.length ≤ sizeLine)
    (turn : ∀ (i : Nat) v k, vs[i]? = some v → kz[i]? = some k → ∀ pn H' s', Inv X pn σ H' s' → Same H H' → wpAny (model X.prog X.w) A (call f [v]) (EP X pn σ fun r H'' => r = .int k ∧ Same H' H'') (fun _ _ => False) s')
    (fin : ∀ H' s' ps, Same H H' → H' a = none → List.Perm ps (kz.zip xs) → ps.Pairwise (fun p q => p.1 ≤ q.1) → Inv X pins σ (upd H' a (.lst (ps.map (·.2)))) s' → P (.done (.ret .none)) s') :
    wpAny (model X.prog X.w) A (ksk_rest a f false vs.toArray e1 (.ref kS)) P E s := by
  unfold ksk_rest
  refine wpAny_bind (wpAny_rule ?_)
  rw [← Array.forIn_toList]
  refine wpAny_bind (ksk_fold (SkJ X pins σ H kS a e1 kz) vs 0 s J (fun j x s' hx hJ => ?_) fun s' hJ => ?_)
  · rw [Nat.zero_add] at hJ ⊢
    obtain ⟨H', kA, e, I, sm, hk⟩ := hJ
    have hj : j < vs.length := (List.getElem?_eq_some_iff.mp hx).1
    obtain ⟨k, hkj⟩ : ∃ k, kz[j]? = some k := ⟨_, List.getElem?_eq_getElem (by omega)⟩
    have hn : kA.size = j := by
      have h1 := hk.length
      rw [Array.length_toList, List.length_take] at h1
      omega
    refine wpAny_bind (wpAny_attempt (wpAny_mono (turn j x k hx hkj _ H' s' I sm) (fun v s2 he => ?_) fun _ _ z => z.elim))
    obtain ⟨r, H2, I2, rv, rfl, sm2⟩ := he
    obtain ⟨t, rfl⟩ := rv
    have pk := I2.pin (kS, sl kA e) (List.mem_append_right _ (List.mem_append_right _ (by simp)))
    refine wpAny_bind (sk_put I2 ⟨pk.2.1, f1.2⟩ hka (by omega) fun s3 c I3 => wpAny_pure ⟨rfl, H2, _, c, I3, sm.trans sm2, ?_⟩)
    rw [Array.toList_push, List.take_add_one, hkj]
    exact ksk_snoc hk
  · obtain ⟨H', kA, e, I, sm, hk⟩ := hJ
    rw [Nat.zero_add, List.take_of_length_le (by omega)] at hk
    have pk := I.pin (kS, sl kA e) (List.mem_append_right _ (List.mem_append_right _ (by simp)))
    have pa := I.pin (a, sl #[] e1) (List.mem_append_right _ (List.mem_append_right _ (by simp)))
    refine wpAny_bind (listItems_at pk.1 rfl ?_)
    exact sk_end I ⟨pk.2.1, f1.2⟩ ⟨pa.2.1, f2.2⟩ hka hv hl hZ hk fun s4 ps h1 h2 I4 => fin H' s4 ps sm pa.2.1 h1 h2 I4
theorem sk_tree {f : Value} (I : Inv X pins σ H s) (ho : s.heap.get? a = some (sl vs.toArray n)) (f2 : FpOk X pins H a) (hv : Vals xs vs) (hl : kz.length = vs.length) (hZ : vs.length ≤ sizeLine)
    (turn : ∀ (i : Nat) v k, vs[i]? = some v → kz[i]? = some k → ∀ pn H' s', Inv X pn σ H' s' → Same H H' → wpAny (model X.prog X.w) A (call f [v]) (EP X pn σ fun r H'' => r = .int k ∧ Same H' H'') (fun _ _ => False) s')
    (fin : ∀ H' s' ps, Same H H' → H' a = none → List.Perm ps (kz.zip xs) → ps.Pairwise (fun p q => p.1 ≤ q.1) → Inv X pins σ (upd H' a (.lst (ps.map (·.2)))) s' → P (.done (.ret .none)) s') :
    wpAny (model X.prog X.w) A (ksk_tree a f false) P E s := by
  have h0 : (0 : Nat) ≤ sizeLine + 1 := Nat.zero_le _
  obtain ⟨e1, ho1⟩ : ∃ e1, (s.heap.update a (Obj.mapSeq fun _ => (#[] : Array Value))).get? a = some (sl #[] e1) := ⟨_, get?_update_seq ho _⟩
  have old : ∀ b o, b ≠ a → s.heap.get? b = some o → (s.heap.update a (Obj.mapSeq fun _ => (#[] : Array Value))).get? b = some o := fun b o h e => (Heap.get?_update_ne _ _ _ _ h).trans e
  have I1 : Inv X pins σ H { s with heap := s.heap.update a (Obj.mapSeq fun _ => (#[] : Array Value)), toks := s.toks } := I.turned (it := a) old f2.1 f2.2.1 f2.2.2.2.1 f2.2.2.2.2.1 f2.2.2.2.2.2
  unfold ksk_tree
  refine wpAny_bind (listItems_at ho rfl ?_)
  refine wpAny_bind (listUpdate_at ho rfl ?_ (by rw [List.size_toArray]; exact hZ) h0)
  refine wpAny_bind (seqEpoch_at ho1 rfl ?_)
  refine wpAny_bind (wpAny_newTuple ?_ (by show vs.length ≤ _; exact hZ))
  refine wpAny_bind (wpAny_newList ?_ (Nat.zero_le _))
  refine wpAny_holding ?_
  generalize s.heap.update a (Obj.mapSeq fun _ => (#[] : Array Value)) = g at *
  obtain ⟨t, ht⟩ : ∃ t : Obj, t = { cls := .type "tuple", data := .seq vs.toArray } := ⟨_, rfl⟩
  have I2 : Inv X pins σ H { s with heap := g.push t, toks := s.toks } := I1.kept (t' := s.toks) fun _ _ q => Heap.get?_push_of_some _ q
  have I3 : Inv X pins σ H { s with heap := (g.push t).push (sl #[] 0), toks := s.toks } := I2.kept (t' := s.toks) fun _ _ q => Heap.get?_push_of_some _ q
  have f1 : FpOk X pins H (g.push t).objs.size := I2.fpOk (Nat.le_refl _) (I2.hok.fresh (Nat.le_refl _))
  have ha : a < g.objs.size := Heap.lt_size ho1
  have hka : (g.push t).objs.size ≠ a := by rw [size_push']; exact Nat.ne_of_gt (Nat.lt_succ_of_lt ha)
  have gk : ((g.push t).push (sl #[] 0)).get? (g.push t).objs.size = some (sl #[] 0) := Heap.get?_push_size _ rfl
  have ga : ((g.push t).push (sl #[] 0)).get? a = some (sl #[] e1) := Heap.get?_push_of_some _ (Heap.get?_push_of_some _ ho1)
  subst ht
  refine sk_rest (s := { s with heap := (g.push { cls := .type "tuple", data := .seq vs.toArray }).push (sl #[] 0) }) (H := H) ⟨H, #[], 0, I3.pins_of fun p hp => ?_, fun _ _ q => q, .nil⟩ f1 f2 hka hv hl hZ turn fin
  rcases List.mem_append.mp hp with hp | hp
  · exact I3.pin p (List.mem_append_right _ hp)
  · rcases List.mem_cons.mp hp with rfl | hp
    · exact ⟨gk, f1.1, f1.2.1, f1.2.2.1, sl_cell⟩
    · rw [List.mem_singleton.mp hp]
      exact ⟨ga, f2.1, f2.2.1, f2.2.2.1, sl_cell⟩
/-- a def with one parameter runs, and lets nothing out -/
theorem sk_call {f : Addr} {fd : FuncData} {ps : List Str} {sp : Sp} {x : V} {u : Value} {Q : VK} (F : FnOk X.prog X.w X.K X.mg X.base (L2.CX X.prog X.w) k f fd ps sp) (hr : Room k A) (hA : A.frames = some X.stack) (hb : Binds X.K fd ps [])
    (I : Inv X pins σ H s) (rv : RelV x u) (h : sp [x] H Q fun _ _ _ => False) : wpAny (model X.prog X.w) A (call (.ref f) [u]) (EP X pins σ Q) (fun _ _ => False) s := by
  have r : Vals [x] [u] := .cons rv .nil
  have hl : ([u] : List Value).length = ps.length := by rw [← r.length]; exact F.len _ _ _ _ h
  have b := hb s [u] I.kIn (by rw [List.append_nil]; exact hl)
  rw [List.append_nil] at b
  refine wpAny_call (codeAny_mono (F.run A X.stack s H ⟨[u], []⟩ [u] [x] Q (fun _ _ _ => False) hr { I.env0 with frames := hA } b r h) fun r s' hq => ?_)
  cases r with
  | error z =>
    obtain ⟨_, _, _, _, _, _, _, _, _, _, _, _, w⟩ := hq
    exact w.elim
  | ok fl =>
    cases fl with
    | ret u => exact I.after hq
    | next => exact hq.elim
    | brk => exact hq.elim
    | cont => exact hq.elim
def rSortK (K : PySem.W.Frag) (sp : Sp) (f : Addr) : List V → List V → Hp → VK → Prop := fun vs zs H Q => ∃ (a : Addr) (xs : List V) (kz : List Int), vs = [V.ref a] ∧ zs = [V.ref f] ∧ SqL K H a xs ∧ kz.length = xs.length ∧
  (∀ (i : Nat) x k, xs[i]? = some x → kz[i]? = some k → ∀ H', Same H H' → sp [x] H' (fun r H'' => r = V.int k ∧ Same H' H'') fun _ _ _ => False) ∧
  ∀ H' p (ps : List (Int × V)), Same H H' → H' p = none → List.Perm ps (kz.zip xs) → ps.Pairwise (fun p q => p.1 ≤ q.1) → Q (.ref p) (upd H' p (.lst (ps.map (·.2))))
theorem cr_sortK {f : Addr} {fd : FuncData} {ps : List Str} {sp : Sp} (F : FnOk X.prog X.w X.K X.mg X.base (L2.CX X.prog X.w) k f fd ps sp) (hr : Room (k + 2) X.A) (hb : Binds X.K fd ps []) : CallRK X (.builtin "sorted") [Str.ofString "key"] (rSortK X.K sp f) := by
  intro pins s σ H vs zs us ws Q I r rz h
  obtain ⟨a, xs, kz, rfl, rfl, hs, hl, turn, q⟩ := h
  obtain rfl := Vals.ref1 r
  obtain ⟨w1, rfl, e1⟩ := vals1 rz
  obtain rfl : w1 = Value.ref f := e1
  obtain ⟨its, rv, pl, hz⟩ := I.list hs
  have hz2 : its.length ≤ sizeLine := by rw [← rv.length]; exact hz
  have hr2 : Room k X.A.in1.in1 := (show Room (k + 1) X.A.in1 from Room.in1 hr).in1
  refine call_function_entry_kw kind_sorted plain_sorted entry_sorted (ksk_s1 _ _) ?_
  unfold Builtin.«sorted»
  refine wpAny_bind (m := checkCount "sorted" 1 1 _) (wpAny_pure ?_)
  refine wpAny_bind (collect_list pl.isList ?_ hz2)
  refine wpAny_bind (wpAny_newList ?_ hz2)
  obtain ⟨g, hg⟩ : ∃ g : Heap, g = (s.heap.push (seqObj "list" #[] 0)).update s.heap.objs.size (Obj.mapSeq (· ++ its.toArray)) := ⟨_, rfl⟩
  have gs : g.objs.size = s.heap.objs.size + 1 := by rw [hg, Heap.size_update, size_push']
  have old : ∀ b o, s.heap.get? b = some o → g.get? b = some o := fun b o e => by
    rw [hg, Heap.get?_update_ne _ _ _ _ (Nat.ne_of_lt (Heap.lt_size e))]
    exact Heap.get?_push_of_some _ e
  have I1 : Inv X pins σ H { s with heap := g, toks := s.toks } := I.kept (t' := s.toks) old
  have I2 : Inv X pins σ H { s with heap := g.push (sl its.toArray 0), toks := s.toks } := I1.kept (t' := s.toks) fun _ _ e => Heap.get?_push_of_some _ e
  have f2 : FpOk X pins H g.objs.size := I1.fpOk (Nat.le_refl _) (I1.hok.fresh (Nat.le_refl _))
  have ho : (g.push (sl its.toArray 0)).get? g.objs.size = some (sl its.toArray 0) := Heap.get?_push_size _ rfl
  rw [← hg]
  refine wpAny_bind (wpAny_holding (wpAny_call_entry_kw slot_list_sort ⟨_, ho, rfl⟩ entry_list_sort ?_ (ksk_l1 _ _)))
  show wpAny _ X.A.in1.in1 (Builtin.«list.sort» ⟨[.ref g.objs.size], [(Str.ofString "key", .ref f)]⟩) _ _ _
  rw [ksk_t1]
  refine sk_tree (s := { s with heap := g.push (sl its.toArray 0) }) I2 ho f2 rv (by rw [hl, rv.length]) hz2 (fun i v kk hv hk pn H' s' J sm => ?_) fun H' s' ps sm hn pm pw J => ⟨_, rfl, ?_⟩
  · obtain ⟨x, hx⟩ : ∃ x, xs[i]? = some x := ⟨_, List.getElem?_eq_getElem (by have := (List.getElem?_eq_some_iff.mp hv).1; rw [rv.length]; exact this)⟩
    obtain ⟨u, hu, ru⟩ := rv.get hx
    rw [hv] at hu
    cases hu
    exact sk_call F hr2 I.ok.frames hb J ru (turn i x kk hx hk H' sm)
  · exact wpAny_pure ⟨_, rfl, .ref g.objs.size, _, J, rfl, q H' _ ps sm hn pm pw⟩
end
theorem keysL_get {g : Q.F} {m : Mem} : ∀ {ds : List D} {ks : List Int}, Q.keysL g m ds = some ks → ks.length = ds.length ∧ ∀ (i : Nat) d k, ds[i]? = some d → ks[i]? = some k → Q.keyR m (g [d] (Q.dead m)) = some k
  | [], ks, h => by cases h; exact ⟨rfl, fun i d k a => by simp at a⟩
  | x :: ds, ks, h => by
    have h : ((Q.keyR m (g [x] (Q.dead m))).bind fun k => (Q.keysL g m ds).map (k :: ·)) = some ks := h
    cases q : Q.keyR m (g [x] (Q.dead m)) with
    | none => rw [q] at h; cases h
    | some k0 =>
      cases q2 : Q.keysL g m ds with
      | none => rw [q, q2] at h; cases h
      | some ks0 =>
        rw [q, q2] at h
        have h : some (k0 :: ks0) = some ks := h
        cases h
        obtain ⟨a, b⟩ := keysL_get q2
        refine ⟨by rw [List.length_cons, List.length_cons, a], fun i d k h1 h2 => ?_⟩
        cases i with
        | zero => cases h1; cases h2; exact q
        | succ i => exact b i d k (by simpa using h1) (by simpa using h2)
theorem reps_trip {G : Cfg} {A : Reg} {H : Hp} : ∀ {vs : List V} {ds : List D}, Reps G A H vs ds → ∀ {kz : List Int}, kz.length = ds.length → ∃ L : List (Int × V × D), L.map (fun t => (t.1, t.2.1)) = kz.zip vs ∧ L.map (fun t => (t.1, t.2.2)) = kz.zip ds ∧ ∀ t ∈ L, Rep G A H t.2.1 t.2.2
  | [], [], _, kz, _ => ⟨[], by simp, by simp, fun t m => by simp at m⟩
  | [], _ :: _, h, _, _ => by have := h.1; simp at this
  | _ :: _, [], h, _, _ => by have := h.1; simp at this
  | v :: vs, d :: ds, h, [], e => by simp at e
  | v :: vs, d :: ds, h, k :: kz, e => by
    obtain ⟨L, a, b, c⟩ := reps_trip (vs := vs) (ds := ds) ⟨by simpa using h.1, fun i x y p q => h.2 (i + 1) x y (by simpa using p) (by simpa using q)⟩ (kz := kz) (by simpa using e)
    refine ⟨(k, v, d) :: L, by rw [List.map_cons, a]; rfl, by rw [List.map_cons, b]; rfl, fun t m => ?_⟩
    rcases List.mem_cons.mp m with rfl | m
    · exact h.2 0 v d rfl rfl
    · exact c t m
theorem reps_maps {G : Cfg} {A : Reg} {H : Hp} : ∀ {M : List (Int × V × D)}, (∀ t ∈ M, Rep G A H t.2.1 t.2.2) → Reps G A H (M.map (·.2.1)) (M.map (·.2.2))
  | [], _ => .nil
  | t :: M, h => .cons (h t List.mem_cons_self) (reps_maps fun u m => h u (List.mem_cons_of_mem _ m))
theorem sortP_of {ps qs : List (Int × D)} (p : qs.Perm ps) (h : qs.Pairwise (fun a b => a.1 ≤ b.1)) (nd : (ps.map (·.1)).Nodup) : qs = Q.sortP ps := by
  refine List.Perm.eq_of_pairwise (le := fun a b : Int × D => a.1 ≤ b.1) (fun a b ha hb h1 h2 => ?_) h ?_ (p.trans (List.mergeSort_perm _ _).symm)
  · have hb : b ∈ ps := (List.mergeSort_perm ps _).mem_iff.mp hb
    have ha := p.mem_iff.mp ha
    have e : a.1 = b.1 := Int.le_antisymm h1 h2
    obtain ⟨i, hi⟩ := List.getElem?_of_mem ha
    obtain ⟨j, hj⟩ := List.getElem?_of_mem hb
    have k1 : (ps.map (·.1))[i]? = some a.1 := by rw [List.getElem?_map, hi]; rfl
    have k2 : (ps.map (·.1))[j]? = some a.1 := by rw [List.getElem?_map, hj, e]; rfl
    obtain ⟨l1, m1⟩ := List.getElem?_eq_some_iff.mp k1
    obtain ⟨l2, m2⟩ := List.getElem?_eq_some_iff.mp k2
    have ij : i = j := (List.getElem_inj nd).mp (m1.trans m2.symm)
    subst ij
    rw [hi] at hj
    exact Option.some.inj hj
  · refine (List.pairwise_mergeSort (le := fun a b : Int × D => decide (a.1 ≤ b.1)) (fun a b c h1 h2 => ?_) (fun a b => ?_) ps).imp fun h => of_decide_eq_true h
    · exact decide_eq_true (Int.le_trans (of_decide_eq_true h1) (of_decide_eq_true h2))
    · rw [Bool.or_eq_true, decide_eq_true_eq, decide_eq_true_eq]; omega
section
variable {X : Cx} {W : WX} {G : Cfg} {a : Expr} {ea : Q.X} {p fp pos kpos : Pos} {k : Nat} {f : Addr} {fd : FuncData} {ps : List Str} {g : Q.F} {x : Str}
theorem q_sortK (hK : X.K = G.K) (F : FnOk X.prog X.w X.K X.mg X.base (L2.CX X.prog X.w) k f fd ps (spF G 1 g)) (hr : Room (k + 2) X.A) (hf : X.mg x = some (.ref f)) (hb : Binds X.K fd ps []) (hm : X.mg "sorted" = none) (ha : PE X a (tE G W ea)) (hgf : Gl X x := by rfl) (hg : Gl X "sorted" := by rfl) (hxd : (x == ("__debug__" : Str)) = false := by decide)
    (he : backTo pos (starEach [a] X.env) = (false, eval a X.env) :: backTo pos (starEach [] X.env) := by rfl) (hst : starEach (a :: []) X.env = (false, eval a X.env) :: starEach [] X.env := by rfl) (hpl : (backTo pos (starEach [a] X.env)).any (·.1) = false := by rfl)
    (hall : (backToKw pos (keywordEach [⟨some (Str.ofString "key"), .Name x fp, kpos⟩] X.env)).all (·.1.isSome) = true := by rfl) (hnone : (backToKw pos (keywordEach [⟨some (Str.ofString "key"), .Name x fp, kpos⟩] X.env)).any (·.1.isNone) = false := by rfl) (hks : (backToKw pos (keywordEach [⟨some (Str.ofString "key"), .Name x fp, kpos⟩] X.env)).filterMap (·.1) = [Str.ofString "key"] := by rfl) :
    PE X (.Call (.Name "sorted" p) [a] [⟨some (Str.ofString "key"), .Name x fp, kpos⟩] pos) (tE G W (Q.sortK g ea)) := by
  have cr := cr_sortK F hr hb
  refine (pe_callBK cr hg hm (by decide +kernel) (pa_cons ha pa_nil hst) (pk_cons (pe_glob (v := V.ref f) hgf hf rfl hxd) pk_nil) (by decide) (by decide) he hpl hall hnone hks).conv fun σ H P ⟨fm, pl, env, E, acc⟩ => tE_in E (acc_bind acc) fun pl1 d c m1 v H1 E1 s1 o1 acc1 => ?_
  obtain ⟨y, c', l, acc2⟩ := acc_rd E1 (o1.at (Ext.refl _)) acc1
  cases y with
  | lst ds =>
    have acc2 : AccR G W fm pl1 (env.wm m1) σ H1 (Q.sortT c' m1 ds (Q.keysL g m1 ds)) fun _ _ _ _ v H' => P v H' := acc2
    cases q : Q.keysL g m1 ds with
    | none => rw [q] at acc2; exact acc2.elim
    | some ks =>
      rw [q] at acc2
      have acc2 : AccR G W fm pl1 (env.wm m1) σ H1 (if ks.Nodup ∧ ds.length ≤ 1000 then .ok (.lst ((Q.sortP (ks.zip ds)).map (·.2))) (Q.again c' ds) m1 else .bad) fun _ _ _ _ v H' => P v H' := acc2
      by_cases z : ks.Nodup ∧ ds.length ≤ 1000
      · rw [if_pos z] at acc2
        obtain ⟨kl, kk⟩ := keysL_get q
        obtain ⟨p0, vs, rfl, e0, r⟩ := l.lst
        refine ⟨p0, vs, ks, rfl, rfl, hK ▸ SqL.of e0, by rw [kl, r.1], fun i x0 k0 hx hk H' sm => ?_, fun H' q0 ps0 sm hq pm pw => ?_⟩
        · obtain ⟨d0, hd⟩ : ∃ d0, ds[i]? = some d0 := ⟨_, List.getElem?_eq_getElem (by have := (List.getElem?_eq_some_iff.mp hx).1; rw [← r.1]; exact this)⟩
          have rk := kk i d0 k0 hd hk
          have rx : Rep G (TR fm pl1) H1 x0 d0 := by
            have r0 := r.2 i x0 d0 hx hd
            cases c' with
            | taint => exact r0
            | _ => exact Rep.sub r0 cold_tr
          have rx2 : Rep G (TR fm pl1) H' x0 d0 := rx.sub ⟨fun a o h e => ⟨h, sm a o e⟩, List.prefix_refl _⟩
          refine ⟨TR fm pl1, [], Q.dead m1, [d0], rfl, ⟨dead_ok E1.mem.len, fun a h => by simp at h⟩, .cons rx2 .nil, ?_⟩
          cases w : g [d0] (Q.dead m1) with
          | bad => rw [w] at rk; cases rk
          | exc kx fs mx => rw [w] at rk; cases rk
          | ok dd cc mm =>
            rw [w] at rk
            intro v2 H2 cs' mu' Af M rt
            have sm2 : Same H' H2 := fun a o e => Af.keep a o e (by simp) fun z => by cases z
            cases dd with
            | int i0 =>
              have rk : (if mm.length = m1.length then some i0 else none) = some k0 := rk
              split at rk
              · cases rk
                refine ⟨?_, sm2⟩
                cases cc with
                | fresh => obtain ⟨_, _, _, _, kc, _⟩ := rt; exact kc.elim
                | cold => exact Rep.int_inv rt
                | hot => exact Rep.int_inv rt
                | taint => exact Rep.int_inv rt
              · cases rk
            | _ => cases rk
        · obtain ⟨L, l1, l2, l3⟩ := reps_trip r kl
          obtain ⟨M, m1', m2⟩ := perm_lift pm l1.symm
          have hs : M.map (fun t => (t.1, t.2.2)) = Q.sortP (ks.zip ds) := by
            refine sortP_of (by rw [← l2]; exact m1'.map _) ?_ ?_
            · rw [m2, List.pairwise_map] at pw
              rw [List.pairwise_map]
              exact pw
            · have e : (ks.zip ds).map (·.1) = ks := List.map_fst_zip (by omega)
              rw [e]; exact z.1
          have rs : Reps G (regC fm pl1 c') H1 (M.map (·.2.1)) (M.map (·.2.2)) := reps_maps fun t ht => l3 t (m1'.mem_iff.mp ht)
          have e1 : ps0.map (·.2) = M.map (·.2.1) := by rw [m2, List.map_map]; rfl
          have e2 : (Q.sortP (ks.zip ds)).map (·.2) = M.map (·.2.2) := by rw [← hs, List.map_map]; rfl
          rw [e2] at acc2
          rw [e1]
          have rs2 : Reps G (regC fm pl1 c') H' (M.map (·.2.1)) (M.map (·.2.2)) := rs.sub ⟨fun a o h e => ⟨h, sm a o e⟩, List.prefix_refl _⟩
          have E2 := E1.later sm
          have ag : Q.again c' ds = Q.again c' (M.map (·.2.2)) := by
            cases c' with
            | taint =>
              have pd : (M.map (·.2.2)).Perm ds := by
                have h1 := (m1'.map fun t : Int × V × D => (t.1, t.2.2)).map (·.2)
                rw [l2, List.map_snd_zip (by omega), List.map_map] at h1
                exact h1
              have ea : ds.all D.scalar = (M.map (·.2.2)).all D.scalar := by
                rw [Bool.eq_iff_iff, List.all_eq_true, List.all_eq_true]
                exact ⟨fun h x hx => h x (pd.mem_iff.mp hx), fun h x hx => h x (pd.mem_iff.mpr hx)⟩
              unfold Q.again
              rw [ea]
            | _ => rfl
          rw [ag] at acc2
          exact acc2 _ _ _ (E2.later (same_new hq)) ((ext_same sm).trans (ext_new hq)) ((again_ok E2 rs2 hq).earlier (pl0 := pl1) (pl1 := pl1) (ext_same sm))
      · rw [if_neg z] at acc2; exact acc2.elim
  | _ => exact acc2.elim
end
end QW

set_option Elab.async false
set_option linter.all false
set_option maxRecDepth 100000
set_option maxHeartbeats 4000000
namespace QW
open PySem PySem.Spec PyProof.Rows L2
open Q (D R RA RB Ctl Cl S Mem Pat)
/-! ### C(..), the last arguments by their defaults -/
section
variable {X : Cx} {W : WX} {G : Cfg} {k n c : Nat} {C f : Addr} {fd : FuncData} {ps : List Str} {sp : Sp} {g : Q.F} {x : Str} {p pos : Pos} {e : Expr} {es : List Expr} {ea : Q.XA} {t : TA} {dvs : List V} {dl : List D} {dus : List Value}
theorem run_makeD {pins : List (Addr × Obj)} {σ : L2.St} {H1 : Hp} {s1 : Shared} {P : VK} {us : List Value} {vs : List V} (M : Mk X.K C f) (F : FnOk X.prog X.w X.K X.mg X.base (L2.CX X.prog X.w) k f fd ps sp) (hr : Room (k + 1) X.A) (hb : Binds X.K fd ps dus) (hd : Vals dvs dus) (tk : Takes X W)
    (I1 : Inv X pins σ H1 s1) (r : Vals vs us) (q : ∀ x dx, H1 x = none → H1 dx = none → dx ≠ x → sp (.ref x :: (vs ++ dvs)) (L2.upd (L2.upd H1 dx (.own x)) x (.ins C dx [])) (fun v H2 => v = .non ∧ P (.ref x) H2) (fun cls d H' => W cls d σ H')) :
    wpAny (model X.prog X.w) X.A (call (.ref C) us) (EP X pins σ P) X.xe s1 := by
  have hq := q (s1.heap.objs.size + 1) s1.heap.objs.size (I1.hok.fresh (Nat.le_succ _)) (I1.hok.fresh (Nat.le_refl _)) (Nat.ne_of_lt (Nat.lt_succ_self _))
  have I2 := Inv.made (C := C) I1
  have r2 : Vals (V.ref (s1.heap.objs.size + 1) :: (vs ++ dvs)) (Value.ref (s1.heap.objs.size + 1) :: us ++ dus) := .cons rfl (r.append hd)
  have hl : (Value.ref (s1.heap.objs.size + 1) :: us ++ dus).length = ps.length := by
    have e1 := F.len _ _ _ _ hq
    rw [← r2.length, e1]
  have bd := hb _ (Value.ref (s1.heap.objs.size + 1) :: us) I2.kIn hl
  refine wpAny_call (make_map (f := f) I1.kIn M.makes M.init (beq_iff_eq.mp M.fn) (codeAny_mono (F.run _ X.stack _ _ ⟨Value.ref (s1.heap.objs.size + 1) :: us, []⟩ _ _ _ _ (hr.make C us []) (I2.env0.make C us []) bd r2 hq) fun z s' hz => ?_))
  cases z with
  | error e => exact passAt tk σ pins _ _ e s' I2 hz
  | ok fl =>
    cases fl with
    | ret u =>
      obtain ⟨v, H', I3, rv, ev, q3⟩ := I2.after hz
      subst ev
      exact ⟨rv, V.ref (s1.heap.objs.size + 1), H', I3, rfl, q3⟩
    | next => exact False.elim hz
    | brk => exact False.elim hz
    | cont => exact False.elim hz
def tMakeD (C : Addr) (sp : Sp) (W : WX) (dvs : List V) (t : TA) : TE := fun σ H P => t σ H fun vs H1 => ∀ x dx, H1 x = none → H1 dx = none → dx ≠ x →
  sp (.ref x :: (vs ++ dvs)) (L2.upd (L2.upd H1 dx (.own x)) x (.ins C dx [])) (fun v H2 => v = .non ∧ P (.ref x) H2) (fun cls d H' => W cls d σ H')
theorem spI_dft {vs : List V} {H : Hp} {P : VK} {E : XK} {n0 : Nat} (hn : n + dl.length = n0) (hdl : dl.map conV = dvs.map some) (h : spI G c n true (Q.dft n0 dl g) vs H P E) : spI G c n0 true g (vs ++ dvs) H P E := by
  obtain ⟨x, dx, ws, A, cs, m, ds, rfl, h1, h2, h3, h4, h5, h6, h7, h8, h9⟩ := h
  have hl : dl.length = dvs.length := by have := congrArg List.length hdl; simpa using this
  refine ⟨x, dx, ws ++ dvs, A, cs, m, ds ++ dl, rfl, by rw [List.length_append]; omega, h2, h3, h4, h5, h6, h7, h8.append (reps_conV hdl _ _), ?_⟩
  have e : Q.dft n0 dl g ds m = g (ds ++ dl) m := if_pos (by omega)
  rw [e] at h9
  exact h9
theorem dft_obj {n0 : Nat} (hobj : ∀ ds m d cl m', g ds m = .ok d cl m' → ∃ fs, d = .obj c fs) : ∀ ds m d cl m', Q.dft n0 dl g ds m = .ok d cl m' → ∃ fs, d = .obj c fs := fun ds m d cl m' h => by
  unfold Q.dft at h
  split at h
  · exact hobj _ _ _ _ _ h
  · cases h
theorem q_mkD {n0 : Nat} (M : Mk X.K (G.cls c) f) (F : FnOk X.prog X.w X.K X.mg X.base (L2.CX X.prog X.w) k f fd ps (spI G c n0 true g)) (hobj : ∀ ds m d cl m', g ds m = .ok d cl m' → ∃ fs, d = .obj c fs) (hr : Room (k + 1) X.A) (hm : X.mg x = some (.ref (G.cls c))) (hb : Binds X.K fd ps dus) (hd : Vals dvs dus) (hdl : dl.map conV = dvs.map some) (tk : Takes X W) (ha : PA X (e :: es) (tA G W ea))
    (hn : n + dl.length = n0 := by rfl) (hg : Gl X x := by rfl) (hdb : (x == ("__debug__" : Str)) = false := by decide) (he : starEach (e :: es) X.env = (false, eval e X.env) :: starEach es X.env := by rfl) (hpl : (backTo pos (starEach es X.env)).any (·.1) = false := by rfl) :
    PE X (.Call (.Name x p) (e :: es) [] pos) (tE G W (Q.mk n (Q.dft n0 dl g) ea)) := by
  have pe : PE X (.Call (.Name x p) (e :: es) [] pos) (tMakeD (G.cls c) (spI G c n0 true g) W dvs (tA G W ea)) := by
    refine ⟨fun pins s σ H P I h => wpAny_Call_Name_kw (ld_glob I hg hm ?_ hdb)⟩
    refine PySem.W.callWith_K (h₀ := X.base) I.ok.mod.kin M.kp (thn (ha.run pos pins s σ H _ I h) fun us s1 hh => ?_) he hpl
    obtain ⟨vs, H1, I1, r, q⟩ := hh
    exact ⟨I1.kIn, run_makeD M F hr hb hd tk I1 r q⟩
  exact pe.conv fun σ H P ⟨fm, pl, env, E, acc⟩ => tA_in E (accA_bind acc) fun pl1 ds t m1 vs H1 E1 s1 r1 acc1 => fun x dx hx hdx hne => spI_dft (vs := .ref x :: vs) hn hdl (made_ok E1 r1 acc1 (dft_obj hobj ds) x dx hx hdx hne)
theorem q_mkD0 {n0 : Nat} (M : Mk X.K (G.cls c) f) (F : FnOk X.prog X.w X.K X.mg X.base (L2.CX X.prog X.w) k f fd ps (spI G c n0 true g)) (hobj : ∀ ds m d cl m', g ds m = .ok d cl m' → ∃ fs, d = .obj c fs) (hr : Room (k + 1) X.A) (hm : X.mg x = some (.ref (G.cls c))) (hb : Binds X.K fd ps dus) (hd : Vals dvs dus) (hdl : dl.map conV = dvs.map some) (tk : Takes X W)
    (hn : 0 + dl.length = n0 := by rfl) (hg : Gl X x := by rfl) (hdb : (x == ("__debug__" : Str)) = false := by decide) :
    PE X (.Call (.Name x p) [] [] pos) (tE G W (Q.mk 0 (Q.dft n0 dl g) Q.anil)) := by
  have ha : PA X [] (tA G W Q.anil) := q_anil
  have pe : PE X (.Call (.Name x p) [] [] pos) (tMakeD (G.cls c) (spI G c n0 true g) W dvs (tA G W Q.anil)) := by
    refine ⟨fun pins s σ H P I h => wpAny_Call_Name_kw (ld_glob I hg hm ?_ hdb)⟩
    obtain ⟨fm, pl, env, E, acc⟩ := h
    have h2 : ∀ x dx, H x = none → H dx = none → dx ≠ x → spI G c n0 true g (.ref x :: ([] ++ dvs)) (L2.upd (L2.upd H dx (.own x)) x (.ins (G.cls c) dx [])) (fun v H2 => v = .non ∧ P (.ref x) H2) (fun cls d H' => W cls d σ H') := acc pl [] H E (Ext.refl _) .nil
    exact PySem.W.callWith_K0 I.kIn M.kp (run_makeD (us := []) M F hr hb hd tk I .nil h2)
  exact pe.conv fun σ H P ⟨fm, pl, env, E, acc⟩ => tA_in E (accA_bind acc) fun pl1 ds t m1 vs H1 E1 s1 r1 acc1 => fun x dx hx hdx hne => spI_dft (vs := .ref x :: vs) hn hdl (made_ok E1 r1 acc1 (dft_obj hobj ds) x dx hx hdx hne)
end
end QW

set_option Elab.async false
set_option linter.all false
set_option maxRecDepth 100000
set_option maxHeartbeats 4000000
namespace QW
open PySem PySem.Spec PyProof.Rows L2
open Q (D R RA RB Ctl Cl S Mem Pat)
/-! ### o.f += a, o a place -/
theorem od_addR {G : Cfg} : OpD G rAdd Q.opAdd := od_add
theorem od_subR {G : Cfg} : OpD G rSub Q.opSub := od_sub
section
variable {X : Cx} {W : WX} {G : Cfg} {o e : Expr} {eo ea : Q.X} {pos : Pos} {op : Operator} {rdd : V → V → Hp → VK → Prop} {f : D → D → Option D}
theorem s_augP {n k : Nat} {nm : Str} {tpos : Pos} (hK : X.K = G.K) (C : ClsOk G n) (hop : InOp X op rdd) (od : OpD G rdd f) (ho : PE X o (tE G W eo)) (he : PE X e (tE G W ea)) (hk : (G.names n)[k]? = some nm := by rfl) :
    PS X (.AugAssign (.Attribute o nm tpos) op e pos) (tS G W (Q.saugP n k f eo ea)) :=
  PS.conv (ps_fldaug ho he hop) fun T σ H ⟨fm, pl, env, ks, E, acc⟩ => tE_st E (accS_bind E acc) fun pl1 d c m1 v H1 E1 s1 o1 acc1 => by
    cases d with
    | ptr q =>
      have acc1 : AccS G W fm ks T (Q.sgT n k q f ea env m1 ((Q.at_ m1 q).bind (Q.fgetF n k))) := acc1
      cases z : Q.at_ m1 q with
      | none => rw [z] at acc1; exact acc1.elim
      | some d0 =>
        rw [z] at acc1
        obtain ⟨p, rfl, hmu, hcs, K, l⟩ := cell_look E1 o1.anyR (show Q.at_ (env.wm m1).mem q = some d0 from z)
        cases d0 with
        | obj r ds =>
          have acc1 : AccS G W fm ks T (Q.sgT n k q f ea env m1 (if r = n then ds[k]? else none)) := acc1
          by_cases hr : r = n
          · subst hr
            rw [if_pos rfl] at acc1
            cases y : ds[k]? with
            | none => rw [y] at acc1; exact acc1.elim
            | some x0 =>
              rw [y] at acc1
              have acc1 : AccS G W fm ks T ((ea (env.wm m1)).bindS env fun y _ m => Q.sgU r k q env m (f x0 y)) := acc1
              obtain ⟨dx, vs, hH, rr⟩ := K
              obtain ⟨vx, hvx, rx⟩ := rr.get y
              refine ⟨p, _, dx, _, vx, rfl, hH, hK ▸ C.cl, hK ▸ C.no _ (List.mem_of_getElem? hk), zip_look C.nd hk hvx, ?_⟩
              refine tE_st E1 (accS_bind E1 acc1) fun pl2 d2 c2 m2 v2 H2 E2 s2 o2 acc2 => ?_
              cases w : f x0 d2 with
              | none => rw [w] at acc2; exact acc2.elim
              | some z0 =>
                rw [w] at acc2
                have acc2 : AccS G W fm ks T (Q.ptT (Q.fputF r k z0) env m2 (.ptr q)) := acc2
                obtain ⟨sz, go0⟩ := od x0 d2 z0 w
                obtain ⟨vz, rz, go⟩ := go0 (TR fm pl2) H2 vx v2 ((rx.sub s2.cold).sub cold_tr) o2.anyR
                refine go _ ?_
                obtain ⟨q', d0', d1, e', z1, z2, acc5⟩ := accS_pt acc2
                cases e'
                obtain ⟨p', e', hmu2, hcs2, K2, _⟩ := cell_look E2 (o1.at s2).2 (show Q.at_ (env.wm m2).mem q = some _ from z1)
                cases e'
                cases d0' with
                | obj r' ds' =>
                  have z2 : (if r' = r then (Q.putF k ds' z0).map (D.obj r) else none) = some d1 := z2
                  by_cases hr : r' = r
                  · subst hr
                    rw [if_pos rfl] at z2
                    cases zz : Q.putF k ds' z0 with
                    | none => rw [zz] at z2; cases z2
                    | some es =>
                      rw [zz] at z2
                      cases z2
                      obtain ⟨dx', vs', hH', rr'⟩ := K2
                      obtain ⟨us, h1, h2⟩ := fput C hk rr' (Rep.scalar rz sz) zz
                      refine ⟨dx', _, hH', zip_few C vs', ?_⟩
                      rw [h1]
                      exact acc5 pl2 _ _ (E2.writeCell (get_mem z1) hmu2 hcs2 ⟨dx', us, upd_same, h2.sub (upd_cold (.inr hcs2))⟩)
                  · rw [if_neg hr] at z2; cases z2
                | _ => cases z2
          · rw [if_neg hr] at acc1; exact acc1.elim
        | _ => exact acc1.elim
    | _ => exact acc1.elim
end
end QW

set_option Elab.async false
set_option linter.all false
set_option maxRecDepth 100000
set_option maxHeartbeats 4000000
namespace QW
open PySem PySem.Spec PyProof.Rows L2
open Q (D R RA RB Ctl Cl S Mem Pat)
/-! ### len(set(l)), l unlike whole numbers -/
section
variable {X : Cx} {W : WX} {G : Cfg} {a : Expr} {ea : Q.X} {p p2 q pos : Pos}
theorem q_lenSetI (hK : X.K = G.K) (hc : X.calm = true) (hm : X.mg "len" = none) (hm2 : X.mg "set" = none) (ha : PE X a (tE G W ea)) (hg : Gl X "len" := by rfl) (hg2 : Gl X "set" := by rfl)
    (na : starEach [a] X.env = (false, eval a X.env) :: starEach [] X.env := by rfl) : PE X (.Call (.Name "len" p) [.Call (.Name "set" p2) [a] [] q] [] pos) (tE G W (Q.lenSetI ea)) :=
  (L2.pe_lenSetI hc hg hm hg2 hm2 ha na).conv fun σ H P ⟨fm, pl, env, E, acc⟩ => tE_in E (acc_bind acc) fun pl1 d c m1 v H1 E1 s1 o1 acc1 => by
    obtain ⟨y, c', l, acc2⟩ := acc_rd E1 (o1.at (Ext.refl _)) acc1
    obtain ⟨z, q, acc3⟩ := ofO_some acc2
    cases y with
    | lst ds =>
      have q : Q.lnI (Q.intsD ds) = some z := q
      cases qt : Q.intsD ds with
      | none => rw [qt] at q; cases q
      | some ks =>
        rw [qt] at q
        have q : (if ks.Nodup ∧ ks.length < 64 then some (D.int (ks.length : Nat)) else none) = some z := q
        by_cases hn : ks.Nodup ∧ ks.length < 64
        · rw [if_pos hn] at q
          cases q
          obtain ⟨p0, vs0, rfl, e0, r0⟩ := l.lst
          have e1 : vs0 = ks.map V.int := r0.intsD (Q.of_ints qt)
          refine ⟨p0, ks, rfl, by rw [hK, ← e1]; exact SqL.of e0, hn.2, hn.1, ?_⟩
          exact acc3 _ _ H1 E1 (Ext.refl _) (Rep.int _)
        · rw [if_neg hn] at q; cases q
    | _ => cases q
end
end QW

set_option Elab.async false
set_option linter.all false
set_option maxRecDepth 100000
set_option maxHeartbeats 4000000
namespace QW
open PySem PySem.Spec PyProof.Rows L2
open Q (D R RA RB Ctl Cl S Mem Pat)
/-! ### tuple + tuple -/
section
variable {X : Cx} {W : WX} {G : Cfg} {a b : Expr} {ea eb : Q.X} {pos : Pos}
theorem q_catt (hK : X.K = G.K) (ha : PE X a (tE G W ea)) (hb : PE X b (tE G W eb)) : PE X (.BinOp a .Add b pos) (tE G W (Q.catt ea eb)) := by
  have oc : OpR X (binaryOp .Add) (rCatT G.K) := hK ▸ op_catT
  refine (pe_op oc ha hb).conv fun σ H P ⟨fm, pl, env, E, acc⟩ => tE_in E (acc_bind acc) fun pl1 d c m1 v H1 E1 s1 o1 acc1 => tE_in E1 (acc_bind acc1) fun pl2 d2 c2 m2 v2 H2 E2 s2 o2 acc2 => ?_
  obtain ⟨x, c, l1, acc3⟩ := acc_rd E2 (o1.at s2) acc2
  obtain ⟨y, c2, l2, acc4⟩ := acc_rd E2 (o2.at (Ext.refl _)) acc3
  cases x with
  | tup xs =>
    cases y with
    | tup ys =>
      have acc4 : AccR G W fm pl2 (env.wm m2) σ H2 (if xs.length + ys.length ≤ Q.most ∧ xs ≠ [] ∧ ys ≠ [] then .ok (.tup (xs ++ ys)) (if (c = .taint ∨ c2 = .taint) then .taint else .cold) m2 else .bad) fun _ _ _ _ v H' => P v H' := acc4
      by_cases q : xs.length + ys.length ≤ Q.most ∧ xs ≠ [] ∧ ys ≠ []
      · rw [if_pos q] at acc4
        obtain ⟨p1, vs, rfl, e1, r1⟩ := l1.tup xs rfl
        obtain ⟨p2, us, rfl, e2, r2⟩ := l2.tup ys rfl
        have nv : vs ≠ [] := fun z => q.2.1 (List.length_eq_zero_iff.mp (by rw [← r1.1, z]; rfl))
        have nu : us ≠ [] := fun z => q.2.2 (List.length_eq_zero_iff.mp (by rw [← r2.1, z]; rfl))
        refine ⟨p1, p2, vs, us, rfl, rfl, SqT.of e1, SqT.of e2, nv, most_line (by rw [r1.1, r2.1]; exact q.1), fun z => absurd z nu, fun _ t ht => ?_⟩
        refine acc4 _ _ _ (E2.later (same_new ht)) (ext_new ht) ?_
        by_cases z : c = .taint ∨ c2 = .taint
        · rw [if_pos z]
          have r := ((r1.sub reg_tr).append (r2.sub reg_tr)).sub (new_reg (o := .tup (vs ++ us)) ht)
          exact Rep.tup (E2.newTR ht) upd_same r.1 r.2
        · rw [if_neg z]
          have g1 : Reps G (Cold fm pl2) H2 vs xs := by
            cases c with
            | taint => exact absurd (.inl rfl) z
            | _ => exact r1
          have g2 : Reps G (Cold fm pl2) H2 us ys := by
            cases c2 with
            | taint => exact absurd (.inr rfl) z
            | _ => exact r2
          have r := (g1.append g2).sub (new_reg (o := .tup (vs ++ us)) ht)
          exact Rep.tup (E2.newCold ht) upd_same r.1 r.2
      · rw [if_neg q] at acc4; exact acc4.elim
    | _ => exact acc4.elim
  | _ => cases y <;> exact acc4.elim
end
end QW

set_option Elab.async false
set_option linter.all false
set_option maxRecDepth 100000
set_option maxHeartbeats 4000000
namespace QW
open PySem PySem.Spec PyProof.Rows L2
open Q (D R RA RB Ctl Cl S Mem Pat)
/-! ### l == [] , l of anything -/
def rEqE (K : PySem.W.Frag) : R2 := fun x y H Q => ∃ (a b : Addr) (xs : List V), x = .ref a ∧ y = .ref b ∧ SqL K H a xs ∧ SqL K H b [] ∧ Q (.bl xs.isEmpty) H
theorem op_eqE {X : Cx} (hu : X.A.units + 64 < cLine) : OpR X (compareOp .Eq) (rEqE X.K) := by
  intro pins s σ H x y v u Q I rx ry h
  obtain ⟨a, b, xs, rfl, rfl, ha, hb, q⟩ := h
  obtain rfl : v = Value.ref a := rx
  obtain rfl : u = Value.ref b := ry
  obtain ⟨its, rv, pl, hz⟩ := I.list ha
  obtain ⟨its2, rv2, pl2, hz2⟩ := I.list hb
  have e2 : its2 = [] := by cases rv2; rfl
  subst e2
  have hu1 : X.A.units < cLine := by omega
  cases rv with
  | nil =>
    exact PySem.SeqAt.RcAt.lists (e := fun _ => true) pl.isList pl2.isList rfl hu1 (fun j h1 => absurd h1 (Nat.not_lt_zero j)) X.prog X.w _ _ ⟨.bl true, H, I, rfl, q⟩
  | cons r t =>
    exact PySem.SeqAt.RcAt.lists_lengths pl.isList pl2.isList rfl hu1 X.prog X.w _ _ ⟨.bl false, H, I, rfl, q⟩
theorem od_eqE {G : Cfg} : OpD G (rEqE G.K) Q.opEqE := fun x y z h => by
  cases x with
  | lst xs =>
    cases y with
    | lst ys =>
      cases ys with
      | nil =>
        have h : some (D.bl xs.isEmpty) = some z := h
        cases h
        refine ⟨rfl, fun A H vx vy rx ry => ⟨.bl xs.isEmpty, .bl _, fun P p => ?_⟩⟩
        obtain ⟨a, rfl⟩ := rx.lst_inv
        obtain ⟨b, rfl⟩ := ry.lst_inv
        obtain ⟨vs, _, sq, rr⟩ := rx.lstSq
        obtain ⟨us, _, sq2, rr2⟩ := ry.lstSq
        have e2 : us = [] := List.length_eq_zero_iff.mp rr2.1
        subst e2
        refine ⟨a, b, vs, rfl, rfl, sq, sq2, ?_⟩
        have e : vs.isEmpty = xs.isEmpty := by
          cases vs with
          | nil => cases xs with
            | nil => rfl
            | cons d ds => have := rr.1; simp at this
          | cons v vs => cases xs with
            | nil => have := rr.1; simp at this
            | cons d ds => rfl
        rw [e]; exact p
      | cons d ds => cases h
    | _ => cases h
  | _ => cases y <;> cases h
end QW

set_option Elab.async false
set_option linter.all false
set_option maxRecDepth 100000
set_option maxHeartbeats 2000000
/-! the head by one run of the top: what the law leans on is looked at in a part of the heap -/
namespace QH
open PySem PySem.Spec PyProof.Rows L2
abbrev Looked : Type := List Bool × List He.AlD
abbrev Ask1 : Type := PySem.W.Frag → Bool
def seen (fn : List (List He.DefD)) (ex : List (List Ask1)) (K : PySem.W.Frag) : Looked := (ex.map fun c => c.all fun f => f K, fn.map fun c => He.obsD [] c K)
def want (fn : List (List He.DefD)) (ex : List (List Ask1)) : Looked := (ex.map fun _ => true, fn.map He.valD)
def part_ (n : Nat) (g : Addr → Option Obj) : PySem.W.Frag := He.frG g (cStatics :: He.asD g n)
def told (n : Nat) (fn : List (List He.DefD)) (ex : List (List Ask1)) (g : Addr → Option Obj) : Looked := seen fn ex (part_ n g)
def hk (n : Nat) (fn : List (List He.DefD)) (ex : List (List Ask1)) : PySem.W.Hook where
  α := Looked
  obs := fun z => told n fn ex z.heap.get?
  val := fun _ => want fn ex
  says := fun _ h => ∃ K : PySem.W.Frag, K.In h ∧ seen fn ex K = want fn ex
  of := fun _ _ e => ⟨_, He.frG_in, e⟩
  keeps := fun _ _ _ ⟨K, i, c⟩ k => ⟨K, PySem.W.Frag.In.keeps i k, c⟩
theorem told_eq {n : Nat} {fn : List (List He.DefD)} {ex : List (List Ask1)} (t : PySem.W.SharedT) : told n fn ex (HandSHeadRun.getT t) = (hk n fn ex).obs t.abs := by
  have e : HandSHeadRun.getT t = t.abs.heap.get? := funext (HandSHeadRun.getT_eq t)
  rw [e]
  rfl
section
variable {fn : List (List He.DefD)} {ex : List (List Ask1)} {K : PySem.W.Frag}
theorem fact (c : seen fn ex K = want fn ex) (i j : Nat) {e : List Ask1} {f : Ask1} (h : ex[i]? = some e) (h2 : e[j]? = some f) : f K = true := by
  have c1 : (ex.map fun c => c.all fun f => f K) = ex.map fun _ => true := congrArg (fun z : Looked => z.1) c
  have c2 : (ex.map fun c => c.all fun f => f K)[i]? = (ex.map fun _ => true)[i]? := by rw [c1]
  rw [List.getElem?_map, List.getElem?_map, h] at c2
  exact List.all_eq_true.mp (Option.some.inj c2) f (List.mem_of_getElem? h2)
theorem def_ (c : seen fn ex K = want fn ex) (i j : Nat) {e : List He.DefD} {d : He.DefD} (h : fn[i]? = some e) (h2 : e[j]? = some d) : ∃ fd, FunD K d.name d.qual d.params d.body d.scope (d.dvs K) (d.kws K) (He.fAd K d.at_) fd := by
  have c1 : (fn.map fun c => He.obsD [] c K) = fn.map He.valD := congrArg (fun z : Looked => z.2) c
  have c2 : (fn.map fun c => He.obsD [] c K)[i]? = (fn.map He.valD)[i]? := by rw [c1]
  rw [List.getElem?_map, List.getElem?_map, h] at c2
  exact He.SaysD.def_ (show He.SaysD [] e K from Option.some.inj c2) j h2
end
/-- what one run of the top shows, piece by piece -/
def Shows (r : PySem.W.OpenRow) (M : Nat) (w : World) {β : Type} (ob : PySem.W.SharedT → β) (v : β) : Prop :=
  ∀ os : OsState, (HandSHeadRun.endF (HandSHeadRun.stepQ (HandSHeadRun.denQ HandSHeadRun.tabQ) r.prog w) M r.prog w os).map ob = some v
section
variable {r : PySem.W.OpenRow} {M : Nat} {w : World} {β γ : Type} {f : PySem.W.SharedT → β} {g : PySem.W.SharedT → γ} {a : β} {b : γ}
theorem Shows.pair (h : Shows r M w f a) (k : Shows r M w g b) : Shows r M w (fun t => (f t, g t)) (a, b) := fun os => by
  obtain ⟨t, e, h1⟩ := Option.map_eq_some_iff.mp (h os)
  have k1 := k os
  rw [e] at k1 ⊢
  exact congrArg some (Prod.ext h1 (Option.some.inj k1))
theorem Shows.cons {F : PySem.W.SharedT → List β} {as : List β} (h : Shows r M w f a) (k : Shows r M w F as) : Shows r M w (fun t => f t :: F t) (a :: as) := fun os => by
  obtain ⟨t, e, h1⟩ := Option.map_eq_some_iff.mp (h os)
  have k1 := k os
  rw [e] at k1 ⊢
  have k2 := Option.some.inj k1
  show some (f t :: F t) = some (a :: as)
  rw [h1, k2]
theorem Shows.nil (h : Shows r M w f a) : Shows r M w (fun _ => ([] : List γ)) [] := fun os => by
  obtain ⟨t, e, _⟩ := Option.map_eq_some_iff.mp (h os)
  rw [e]
  rfl
theorem run_join {q : Program} {H : PySem.W.Hook} {ob : PySem.W.SharedT → H.α} {loose : List Str} (h : HandSHeadRun.RunEq r q PySem.W.Hook.none (fun _ => ()) M loose w) (k : Shows r M w ob (H.val w)) : HandSHeadRun.RunEq r q H ob M loose w := fun os => by
  obtain ⟨t, e, h1⟩ := Option.map_eq_some_iff.mp (h os)
  have k1 := k os
  rw [e] at k1 ⊢
  have k2 := Option.some.inj k1
  have e1 := congrArg (fun z => z.1) h1
  have e2 := congrArg (fun z => z.2.1) h1
  exact congrArg some (Prod.ext e1 (Prod.ext e2 k2))
end
/-- a def without defaults -/
theorem plain_ {K : PySem.W.Frag} {x qual : Str} {st : Stmt} {f : Addr} {fd : FuncData} (F : FunD K x qual (defArgs st) (defBody st) (defScope st) [] [] f fd) : L2.Fun K x qual st f fd := by
  obtain ⟨⟨a1, a2, dV, a4, a5, a6, a7, a8, a9, a10, e, lk, hc, hd, _⟩, kp⟩ := F
  rcases hd with ⟨_, hz⟩ | ⟨hz, _⟩
  · rw [hz] at e
    exact ⟨⟨a1, a2, a4, a5, a6, a7, a8, a9, a10, e, lk, hc⟩, kp⟩
  · exact absurd rfl hz
def cfv (r : Option PySem.W.CFound) (v : Value) : Bool := match r with
  | some (.val u) => decide (u = v)
  | _ => false
theorem cfv_ok {r : Option PySem.W.CFound} {v : Value} (h : cfv r v = true) : r = some (.val v) := by
  unfold cfv at h
  split at h
  · rw [of_decide_eq_true h]
  · cases h
def nsi (K : PySem.W.Frag) (x : Str) (i : Int) : Bool := match PySem.W.nsIn K mainGlobals x with
  | some (some (.int j _)) => decide (j = i)
  | _ => false
theorem nsi_ok {K : PySem.W.Frag} {x : Str} {i : Int} (h : nsi K x i = true) : ∃ t, PySem.W.nsIn K mainGlobals x = some (some (.int i t)) := by
  unfold nsi at h
  split at h
  · rename_i j t e
    rw [of_decide_eq_true h] at e
    exact ⟨t, e⟩
  · cases h
/-- the end of a law, world by world -/
theorem end_of {l : PySem.W.OpenLaw} {n k : Nat} {q : Program} {loose : List Str} {XP : (Str → Option Value) → Heap → Prop} {YP : World → Heap → Prop} {d : DefRec} {CX : World → CXT} {x : Str}
    (e1 : l.most = some n) (e2 : n ≤ sizeLine) (e3 : d.params.defaults = []) (e4 : Room k callerA)
    (F : ∀ (v : World) (mg : Str → Option Value) (fa : Addr) (h : Heap), YP v h → h.Ns mainGlobals mg → mg d.name = some (.ref fa) → ∃ (K : PySem.W.Frag) (fd : FuncData) (sp : Sp), K.In h ∧
      (∀ (t : Shared) (u : Value), BindsTo t fd ⟨[u], []⟩ [(x, u)]) ∧
      (∀ (H : Hp) (a : Addr) (zs : List Int), zs.length ≤ n → (∀ z ∈ zs, Builtin.Int.intBits z ≤ 1048576) → Only H → SqL K H a (zs.map V.int) → sp [.ref a] H (fun v _ => v = .bl true) fun _ _ _ => False) ∧
      ∀ b : Heap, K.In b → b.Ns mainGlobals mg → FnOk l.prog v K mg b (CX v) k fa fd [x] sp)
    (hX : ∀ (v : World) (H : Hp) (t : Shared) (e : Value) (t' : Shared), CX v [] H t (fun _ _ _ => False) e t' → False) :
    PySem.W.WalkO q loose XP YP l.row.toRowW d [] (fun f vs => PySem.call f vs) := by
  refine Att.attach_callB e1 e3 fun v t0 t1 m1 m2 fa ob p1 p2 p3 ad us zs G Y r1 r2 r3 r4 r5 r6 r7 r8 r9 => ?_
  obtain ⟨K, fd, sp, KX, hb, hs, hF⟩ := F v m1 fa _ Y G.T.g r4
  exact law_call KX G.T.g G.T.b G.T.builtins G.T.nolimit r9 r5 r6 (Nat.le_trans r7 e2) e4 hF hb (fun H hO hS => hs H ad zs r7 r8 hO hS) fun H e t' => hX v H t1 e t'
end QH

set_option Elab.async false
set_option linter.all false
set_option maxRecDepth 100000
set_option maxHeartbeats 4000000
namespace QW
open PySem PySem.Spec PyProof.Rows L2
open Q (D R RA RB Ctl Cl S Mem Pat)
/-! ### tuple + tuple, either may be empty -/
section
variable {X : Cx} {W : WX} {G : Cfg} {a b : Expr} {ea eb : Q.X} {pos : Pos}
theorem q_catA (hK : X.K = G.K) (ha : PE X a (tE G W ea)) (hb : PE X b (tE G W eb)) : PE X (.BinOp a .Add b pos) (tE G W (Q.catA ea eb)) := by
  have oc : OpR X (binaryOp .Add) (rCatA G.K) := hK ▸ op_catA
  refine (pe_op oc ha hb).conv fun σ H P ⟨fm, pl, env, E, acc⟩ => tE_in E (acc_bind acc) fun pl1 d c m1 v H1 E1 s1 o1 acc1 => tE_in E1 (acc_bind acc1) fun pl2 d2 c2 m2 v2 H2 E2 s2 o2 acc2 => ?_
  obtain ⟨x, c, l1, acc3⟩ := acc_rd E2 (o1.at s2) acc2
  obtain ⟨y, c2, l2, acc4⟩ := acc_rd E2 (o2.at (Ext.refl _)) acc3
  cases x with
  | tup xs =>
    cases y with
    | tup ys =>
      have acc4 : AccR G W fm pl2 (env.wm m2) σ H2 (if xs.length + ys.length ≤ Q.most then (if xs = [] then .ok (.tup ys) (Q.part c2 (.tup ys)) m2 else if ys = [] then .ok (.tup xs) (Q.part c (.tup xs)) m2 else .ok (.tup (xs ++ ys)) (if (c = .taint ∨ c2 = .taint) then .taint else .cold) m2) else .bad) fun _ _ _ _ v H' => P v H' := acc4
      by_cases q : xs.length + ys.length ≤ Q.most
      · rw [if_pos q] at acc4
        obtain ⟨p1, vs, rfl, e1, r1⟩ := l1.tup xs rfl
        obtain ⟨p2, us, rfl, e2, r2⟩ := l2.tup ys rfl
        have nv : vs = [] ↔ xs = [] := by rw [← List.length_eq_zero_iff, ← List.length_eq_zero_iff, r1.1]
        have nu : us = [] ↔ ys = [] := by rw [← List.length_eq_zero_iff, ← List.length_eq_zero_iff, r2.1]
        refine ⟨p1, p2, vs, us, rfl, rfl, SqT.of e1, SqT.of e2, most_line (by rw [r1.1, r2.1]; exact q), fun z => ?_, fun z z2 => ?_, fun z z2 t ht => ?_⟩
        · rw [if_pos (nv.mp z)] at acc4
          exact acc4 _ _ _ E2 (Ext.refl _) (part_ok (l2.tupR ys rfl))
        · rw [if_neg (fun h => z (nv.mpr h)), if_pos (nu.mp z2)] at acc4
          exact acc4 _ _ _ E2 (Ext.refl _) (part_ok (l1.tupR xs rfl))
        · rw [if_neg (fun h => z (nv.mpr h)), if_neg (fun h => z2 (nu.mpr h))] at acc4
          refine acc4 _ _ _ (E2.later (same_new ht)) (ext_new ht) ?_
          by_cases z : c = .taint ∨ c2 = .taint
          · rw [if_pos z]
            have r := ((r1.sub reg_tr).append (r2.sub reg_tr)).sub (new_reg (o := .tup (vs ++ us)) ht)
            exact Rep.tup (E2.newTR ht) upd_same r.1 r.2
          · rw [if_neg z]
            have g1 : Reps G (Cold fm pl2) H2 vs xs := by
              cases c with
              | taint => exact absurd (.inl rfl) z
              | _ => exact r1
            have g2 : Reps G (Cold fm pl2) H2 us ys := by
              cases c2 with
              | taint => exact absurd (.inr rfl) z
              | _ => exact r2
            have r := (g1.append g2).sub (new_reg (o := .tup (vs ++ us)) ht)
            exact Rep.tup (E2.newCold ht) upd_same r.1 r.2
      · rw [if_neg q] at acc4; exact acc4.elim
    | _ => exact acc4.elim
  | _ => cases y <;> exact acc4.elim
end
end QW

set_option Elab.async false
set_option linter.all false
set_option maxRecDepth 100000
set_option maxHeartbeats 4000000
namespace QW
open PySem PySem.Spec PyProof.Rows L2
open Q (D R RA RB Ctl Cl S Mem Pat)
/-! ### < of tuples of whole numbers and of tuples of whole numbers -/
def rLtN (K : PySem.W.Frag) : R2 := fun x y H P => ∃ d e, Dp K H x d ∧ Dp K H y e ∧ PySem.W.alike d e = true ∧ d ≠ .none ∧ d.depth ≤ 64 ∧ P (.bl (PySem.W.dataLt d e)) H
theorem op_ltN {X : Cx} (hu : X.A.units + 64 < cLine) : OpR X (compareOp .Lt) (rLtN X.K) := by
  intro pins s σ H x y v u P I rx ry h
  obtain ⟨d, e, hd, he, al, nn, dd, q⟩ := h
  obtain ⟨as, r1⟩ := Dp.reads I d x v hd rx
  obtain ⟨bs, r2⟩ := Dp.reads I e y u he ry
  exact PySem.W.lt_data r1 r2 al nn (by omega) ⟨.bl _, H, I, rfl, q⟩
theorem toPys_nil : toPys [] = [] := by rw [toPys]
theorem toPys_cons (d : D) (ds : List D) : toPys (d :: ds) = toPy d :: toPys ds := by rw [toPys]
theorem toPy_int (i : Int) : toPy (.int i) = .int i := by rw [toPy]
theorem toPy_tup (ds : List D) : toPy (.tup ds) = .tuple (toPys ds) := by rw [toPy]
theorem toPys_ints (ks : List Int) : toPys (ks.map D.int) = ks.map PyData.int := by
  induction ks with
  | nil => rw [List.map_nil, List.map_nil, toPys_nil]
  | cons k ks ih => rw [List.map_cons, List.map_cons, toPys_cons, ih, toPy_int]
theorem ints_of : ∀ {a : List D} {ks : List Int}, Q.intsD a = some ks → a = ks.map D.int
  | [], ks, h => by cases h; rfl
  | .int i :: r, ks, h => by
    have h : (Q.intsD r).map (i :: ·) = some ks := h
    obtain ⟨ls, h1, rfl⟩ := Option.map_eq_some_iff.mp h
    rw [List.map_cons, ← ints_of h1]
  | .non :: _, _, h | .bl _ :: _, _, h | .str _ :: _, _, h | .tup _ :: _, _, h | .lst _ :: _, _, h | .frz _ :: _, _, h | .obj _ _ :: _, _, h | .dik _ :: _, _, h | .dtk _ :: _, _, h | .ptr _ :: _, _, h => by cases h
theorem ints_pl : ∀ ks : List Int, Q.D.plains (ks.map D.int) = true ∧ Q.D.depths (ks.map D.int) = 0
  | [] => ⟨rfl, rfl⟩
  | k :: ks => by
    have ih := ints_pl ks
    refine ⟨?_, ?_⟩
    · rw [List.map_cons, Q.D.plains, ih.1]; rfl
    · rw [List.map_cons, Q.D.depths, ih.2]; rfl
theorem alike_ints : ∀ ks ls : List Int, PySem.W.alikeAll (ks.map PyData.int) (ls.map PyData.int) = true
  | [], _ => by rw [List.map_nil, PySem.W.alikeAll]
  | _ :: _, [] => by rw [List.map_nil, List.map_cons, PySem.W.alikeAll]
  | k :: ks, l :: ls => by
    rw [List.map_cons, List.map_cons, PySem.W.alikeAll, PySem.W.alike, alike_ints ks ls]; rfl
theorem eqv_ints : ∀ ks ls : List Int, PyData.eqvAll (ks.map PyData.int) (ls.map PyData.int) = decide (ks = ls)
  | [], [] => by rw [List.map_nil, PyData.eqvAll]; rfl
  | [], _ :: _ => by rw [List.map_nil, List.map_cons, PyData.eqvAll] <;> simp
  | _ :: _, [] => by rw [List.map_nil, List.map_cons, PyData.eqvAll] <;> simp
  | k :: ks, l :: ls => by
    rw [List.map_cons, List.map_cons, PyData.eqvAll, PyData.eqv, eqv_ints ks ls]
    by_cases a : k = l <;> by_cases b : ks = ls <;> simp [a, b]
theorem lt_ints : ∀ ks ls : List Int, PyProof.Rows.lexLt PyProof.Rows.itemOrd (PySem.W.keyToksAll (ks.map PyData.int)) (PySem.W.keyToksAll (ls.map PyData.int)) = Q.lexLt ks ls
  | [], [] => by rw [List.map_nil, PySem.W.keyToksAll]; rfl
  | [], _ :: _ => by rw [List.map_nil, List.map_cons, PySem.W.keyToksAll, PySem.W.keyToksAll]; rfl
  | _ :: _, [] => by rw [List.map_nil, List.map_cons, PySem.W.keyToksAll, PySem.W.keyToksAll]; rfl
  | k :: ks, l :: ls => by
    rw [List.map_cons, List.map_cons, Q.lexLt]
    have al : PySem.W.alike (.int k) (.int l) = true := by rw [PySem.W.alike]
    by_cases a : k = l
    · rw [if_pos a, PySem.W.dataLt_all_yes al (by rw [PyData.eqv]; simp [a]), lt_ints ks ls]
    · rw [if_neg a, PySem.W.dataLt_all_no al (by rw [PyData.eqv]; simp [a]), PySem.W.dataLt_int]
theorem okN_al : ∀ {xs ys : List D}, Q.okN xs ys = true → PySem.W.alikeAll (toPys xs) (toPys ys) = true ∧ Q.D.plains xs = true ∧ Q.D.plains ys = true ∧ Q.D.depths xs ≤ 1 ∧ PyProof.Rows.lexLt PyProof.Rows.itemOrd (PySem.W.keyToksAll (toPys xs)) (PySem.W.keyToksAll (toPys ys)) = Q.lexN xs ys := by
  intro xs
  induction xs with
  | nil =>
    intro ys h
    cases ys with
    | nil => exact ⟨by rw [toPys_nil, PySem.W.alikeAll], rfl, rfl, Nat.zero_le _, by rw [toPys_nil, PySem.W.keyToksAll]; rfl⟩
    | cons y ys => exact absurd (show false = true from h) (by decide)
  | cons x xs ih =>
    intro ys h
    cases ys with
    | nil => cases x <;> exact absurd (show false = true from h) (by decide)
    | cons y ys =>
      cases x with
      | int i =>
        cases y with
        | int j =>
          have h : Q.okN xs ys = true := h
          obtain ⟨a, p1, p2, d, e⟩ := ih h
          have al : PySem.W.alike (.int i) (.int j) = true := by rw [PySem.W.alike]
          refine ⟨by rw [toPys_cons, toPys_cons, toPy_int, toPy_int, PySem.W.alikeAll, al, a]; rfl, by rw [Q.D.plains, p1]; rfl, by rw [Q.D.plains, p2]; rfl, by rw [Q.D.depths]; exact Nat.max_le.mpr ⟨Nat.zero_le _, d⟩, ?_⟩
          rw [toPys_cons, toPys_cons, toPy_int, toPy_int, Q.lexN]
          by_cases z : i = j
          · rw [if_pos z, PySem.W.dataLt_all_yes al (by rw [PyData.eqv]; simp [z]), e]
          · rw [if_neg z, PySem.W.dataLt_all_no al (by rw [PyData.eqv]; simp [z]), PySem.W.dataLt_int]
        | _ => exact absurd (show false = true from h) (by decide)
      | tup a =>
        cases y with
        | tup b =>
          have h : (if (Q.intsD a).isSome = true then (if (Q.intsD b).isSome = true then Q.okN xs ys else false) else false) = true := h
          cases ha : Q.intsD a with
          | none => rw [ha] at h; exact absurd (show false = true from h) (by decide)
          | some ks =>
            cases hb : Q.intsD b with
            | none => rw [ha, hb] at h; exact absurd (show false = true from h) (by decide)
            | some ls =>
              rw [ha, hb] at h
              have h : Q.okN xs ys = true := h
              obtain ⟨a1, p1, p2, d, e⟩ := ih h
              have ea := ints_of ha
              have eb := ints_of hb
              have al : PySem.W.alike (toPy (.tup a)) (toPy (.tup b)) = true := by rw [toPy_tup, toPy_tup, ea, eb, toPys_ints, toPys_ints, PySem.W.alike, alike_ints]
              have eq : PyData.eqv (toPy (.tup a)) (toPy (.tup b)) = decide (ks = ls) := by rw [toPy_tup, toPy_tup, ea, eb, toPys_ints, toPys_ints, PyData.eqv, eqv_ints]
              have da := ints_pl ks
              have db := ints_pl ls
              refine ⟨by rw [toPys_cons, toPys_cons, PySem.W.alikeAll, al, a1]; rfl, by rw [Q.D.plains, p1, Q.D.plain, ea, da.1]; rfl, by rw [Q.D.plains, p2, Q.D.plain, eb, db.1]; rfl, by rw [Q.D.depths, Q.D.depth, ea, da.2]; exact Nat.max_le.mpr ⟨Nat.le_refl _, d⟩, ?_⟩
              rw [toPys_cons, toPys_cons, Q.lexN, ha, hb]
              by_cases z : ks = ls
              · rw [if_pos (congrArg some z), PySem.W.dataLt_all_yes al (by rw [eq]; exact decide_eq_true z), e]
              · rw [if_neg (fun q => z (Option.some.inj q)), PySem.W.dataLt_all_no al (by rw [eq]; exact decide_eq_false z)]
                show PySem.W.dataLt (toPy (.tup a)) (toPy (.tup b)) = Q.lexLt ks ls
                rw [toPy_tup, toPy_tup, PySem.W.dataLt_tuple, ea, eb, toPys_ints, toPys_ints, lt_ints]
        | _ => exact absurd (show false = true from h) (by decide)
      | _ => cases y <;> exact absurd (show false = true from h) (by decide)
theorem od_ltN {G : Cfg} : OpD G (rLtN G.K) Q.opLtN := fun x y z h => by
  cases x with
  | tup xs =>
    cases y with
    | tup ys =>
      have h : (if Q.okN xs ys = true then some (D.bl (Q.lexN xs ys)) else none) = some z := h
      by_cases q : Q.okN xs ys = true
      · rw [if_pos q] at h
        cases h
        obtain ⟨al, p1, p2, dd, e⟩ := okN_al q
        have e1 : PySem.W.dataLt (toPy (.tup xs)) (toPy (.tup ys)) = Q.lexN xs ys := by rw [toPy_tup, toPy_tup, PySem.W.dataLt_tuple, e]
        refine ⟨rfl, fun A H vx vy rx ry => ⟨.bl _, .bl _, fun P p => ⟨toPy (.tup xs), toPy (.tup ys), dp_of rx (by rw [Q.D.plain]; exact p1), dp_of ry (by rw [Q.D.plain]; exact p2), by rw [toPy_tup, toPy_tup, PySem.W.alike]; exact al, (by rw [toPy_tup]; exact PyData.noConfusion), by rw [depth_of, Q.D.depth]; omega, by rw [e1]; exact p⟩⟩⟩
      · rw [if_neg q] at h; cases h
    | _ => cases h
  | _ => cases y <;> cases h
end QW

set_option Elab.async false
set_option linter.all false
set_option maxRecDepth 100000
set_option maxHeartbeats 4000000
namespace QW
open PySem PySem.Spec PyProof.Rows L2
open Q (D R RA RB Ctl Cl S Mem Pat)
/-! ### l.pop(), l at a place -/
section
variable {X : Cx} {W : WX} {G : Cfg} {o : Expr} {eo : Q.X}
theorem pop_ok {fm : Fm} {pl : Pl} {env : Q.Env} {σ : L2.St} {H : Hp} {m : Mem} {d : D} {P : Pl → D → Cl → Mem → V → Hp → Prop} (h : AccR G W fm pl env σ H (Q.ppS m d) P) :
    ∃ n ds x, d = .ptr n ∧ Q.at_ m n = some (.lst ds) ∧ ds[ds.length - 1]? = some x ∧ AccR G W fm pl env σ H (.ok x .cold (m.set n (some (.lst ds.dropLast)))) P := by
  cases d with
  | ptr n =>
    have h : AccR G W fm pl env σ H (Q.ppL n m (Q.at_ m n)) P := h
    cases q : Q.at_ m n with
    | none => rw [q] at h; exact h.elim
    | some d0 =>
      rw [q] at h
      cases d0 with
      | lst ds =>
        have h : AccR G W fm pl env σ H (Q.ppT n m ds (ds[ds.length - 1]?)) P := h
        cases z : ds[ds.length - 1]? with
        | none => rw [z] at h; exact h.elim
        | some x => rw [z] at h; exact ⟨n, ds, x, rfl, q, z, h⟩
      | _ => exact h.elim
  | _ => exact h.elim
theorem q_popP {pa pc : Pos} (ho : PE X o (tE G W eo)) (hbase : attributeBase o "pop" X.env (eval o X.env) = eval o X.env := by rfl) (hline : (pa.endLine == pc.line) = true := by rfl) :
    PE X (.Call (.Attribute o "pop" pa) [] [] pc) (tE G W (Q.popP eo)) :=
  (pe_bm0 PySem.F.plainAttrs_list PySem.F.slot_list_pop PySem.F.type_list_pop mt_pop ho hbase hline).conv fun σ H P ⟨fm, pl, env, E, acc⟩ => tE_in E (acc_bind acc) fun pl1 d c m1 v H1 E1 s1 o1 acc1 => by
    obtain ⟨n, ds, x, rfl, z, hx, acc2⟩ := pop_ok acc1
    obtain ⟨p, rfl, hmu, hcs, K, _⟩ := cell_look E1 o1.anyR (show Q.at_ (env.wm m1).mem n = some _ from z)
    obtain ⟨vs, hH, rr⟩ := K
    obtain ⟨y, hy, ry⟩ := rr.get hx
    refine ⟨.inl ⟨rfl, _, SqL.of hH⟩, p, vs, y, rfl, rfl, hH, by rw [rr.1]; exact hy, ?_⟩
    have sb : Sub (Cold fm pl1) H1 (Cold fm pl1) (upd H1 p (.lst vs.dropLast)) := upd_cold (.inr hcs)
    refine acc2 pl1 y _ (E1.writeCell (get_mem z) hmu hcs ⟨vs.dropLast, upd_same, ?_⟩) ⟨fun a o e h => ?_, fun a h => upd_dom h, rfl, fun a h => .inl h, List.prefix_refl _⟩ ?_
    · have rt : Reps G (Cold fm pl1) H1 vs.dropLast ds.dropLast := by
        rw [List.dropLast_eq_take, List.dropLast_eq_take, rr.1]
        exact rr.take _
      exact rt.sub sb
    · have ne : a ≠ p := fun z => h (by rw [z]; exact hcs)
      rw [upd_ne ne]; exact e
    · exact part_ok (c := .hot) (ry.sub sb)
end
end QW

set_option Elab.async false
set_option linter.all false
set_option maxRecDepth 100000
set_option maxHeartbeats 4000000
namespace QW
open PySem PySem.Spec PyProof.Rows L2
open Q (D S R RA RB Ctl Cl Pat Mem)
/-! ### a list at a place stands still from here on -/
section
variable {X : Cx} {W : WX} {G : Cfg} {rest : List Stmt} {sb : Q.XS} {fm : Fm} {pl : Pl} {env : Q.Env} {ks : List (V × D)} {σ : L2.St} {H : Hp}
theorem EnvOk.thaw {i n : Nat} {ds : List D} (E : EnvOk G fm pl env ks σ H) (hi : env.sl[i]? = some (.cold (.ptr n))) (hm : Q.at_ env.mem n = some (.lst ds)) : ∃ pl', EnvOk G fm pl' ((env.wm (env.mem.set n none)).set i (.cold (.lst ds))) ks σ H := by
  obtain ⟨v, hσ, hr⟩ := E.slot i _ hi
  have hg := get_mem hm
  obtain ⟨p, h1, h2, K⟩ := E.mem.cell n _ hg
  obtain ⟨p0, rfl, h0⟩ := hr.ptr_inv
  have ep : p0 = p := Option.some.inj (h0.symm.trans h1)
  subst ep
  have ms : ∀ a, a ∈ pl.cs.filter (fun a => decide (a ≠ p0)) → a ∈ pl.cs := fun a h => (List.mem_filter.mp h).1
  have m : Sub (Cold fm pl) H (Cold fm ⟨pl.hs, pl.cs.filter fun a => decide (a ≠ p0), pl.mu⟩) H := ⟨fun a o h e => ⟨⟨h.1, h.2.1, fun z => h.2.2 (ms a z)⟩, e⟩, List.prefix_refl _⟩
  have mn : ∀ a o, New fm pl a → H a = some o → New fm ⟨pl.hs, pl.cs.filter fun a => decide (a ≠ p0), pl.mu⟩ a ∧ H a = some o := fun a o h e => ⟨⟨h.1, h.2.1, fun z => h.2.2 (ms a z)⟩, e⟩
  have ph := (E.cn p0 h2).2.2
  have pc : fm.A0 p0 ∨ fm.H0 p0 = none ∨ p0 ∈ fm.cs0 := (E.cn p0 h2).1.elim (fun z => .inr (.inr z)) fun z => .inr (.inl z)
  have pn : p0 ∉ pl.cs.filter (fun a => decide (a ≠ p0)) := fun z => by simpa using (List.mem_filter.mp z).2
  have old : ∀ {k : Nat} {d : D}, (env.mem.set n none)[k]? = some (some d) → k ≠ n ∧ env.mem[k]? = some (some d) := fun {k d} e => by
    rcases get_set e with ⟨_, _, z⟩ | ⟨hne, z⟩
    · cases z
    · exact ⟨hne, z⟩
  refine ⟨⟨pl.hs, pl.cs.filter fun a => decide (a ≠ p0), pl.mu⟩, ?_⟩
  exact {
    ex := E.ex
    dom := E.dom
    tA := E.tA
    len := by
      show σ.length = (env.sl.set i _).length
      rw [List.length_set]; exact E.len
    bor := E.bor
    c0 := E.c0
    mup := E.mup
    ms0 := E.ms0
    msh := E.msh
    hn := E.hn
    cn := fun a h => E.cn a (ms a h)
    mem := ⟨by show pl.mu.length = (env.mem.set n none).length; rw [List.length_set]; exact E.mem.len, fun k d e => by
        obtain ⟨hne, e⟩ := old e
        obtain ⟨q, a, b, c⟩ := E.mem.cell k d e
        refine ⟨q, a, List.mem_filter.mpr ⟨b, decide_eq_true fun z => hne (E.mem.inj k n d _ q e hg a (z ▸ h1))⟩, c.sub m fun o e => e⟩, fun k j d e p a b c d' => E.mem.inj k j d e p (old a).2 (old b).2 c d'⟩
    slot := fun j s q => by
      rcases get_set (show (env.sl.set i _)[j]? = some s from q) with ⟨rfl, _, rfl⟩ | ⟨hne, q⟩
      · exact ⟨.ref p0, hσ, (K.sub m fun o e => e).rep ⟨pc, ph, pn⟩⟩
      · have sl := E.slot j s q
        cases s with
        | no => trivial
        | cold d =>
          obtain ⟨v, a, b⟩ := sl
          exact ⟨v, a, b.sub m⟩
        | hot es =>
          obtain ⟨q', a, b, n, c⟩ := sl
          exact ⟨q', a, b, n, c.sub m fun o e => e⟩
        | slf k es =>
          obtain ⟨q', a, b, n, c⟩ := sl
          exact ⟨q', a, b, n, c.sub m fun o e => e⟩
        | bor d => exact sl
        | exn k fs =>
          obtain ⟨a, cls, dd, b, c, r⟩ := sl
          exact ⟨a, cls, dd, b, c, r.sub m mn⟩
    inj := fun j k s t q a b c d' e f => by
      have old : ∀ {n0 : Nat} {t : S}, (((env.wm (env.mem.set n none)).set i (.cold (.lst ds))).sl)[n0]? = some t → isHot t → env.sl[n0]? = some t := fun {n0 t} h hh => by
        rcases get_set (show (env.sl.set i _)[n0]? = some t from h) with ⟨rfl, hl, rfl⟩ | ⟨hne, h⟩
        · exact hh.elim
        · exact h
      exact E.inj j k s t q (old a c) (old b d') c d' e f
    fr := fun k h => (E.fr k h).sub m }
theorem s_thaw {i : Nat} (h : PSs X rest (tS G W sb)) : PSs X rest (tS G W (Q.seq (Q.sthaw i) sb)) :=
  PSs.conv h fun T σ H ⟨fm, pl, env, ks, E, acc⟩ => by
    have e : Q.seq (Q.sthaw i) sb env = (Q.sthS i env (env.sl[i]?)).bind sb := rfl
    rw [e] at acc
    cases q : env.sl[i]? with
    | none => rw [q] at acc; exact acc.elim
    | some s =>
      rw [q] at acc
      cases s with
      | cold d =>
        cases d with
        | ptr n =>
          have acc : AccS G W fm ks T ((Q.sthT i env n (Q.at_ env.mem n)).bind sb) := acc
          cases z : Q.at_ env.mem n with
          | none => rw [z] at acc; exact acc.elim
          | some d0 =>
            rw [z] at acc
            cases d0 with
            | lst ds =>
              obtain ⟨pl', E'⟩ := E.thaw q z
              exact ⟨fm, pl', _, ks, E', acc⟩
            | _ => exact acc.elim
        | _ => exact acc.elim
      | _ => exact acc.elim
end
end QW

set_option Elab.async false
set_option linter.all false
set_option maxRecDepth 100000
set_option maxHeartbeats 4000000
/-! sorted(t), t a tuple of whole numbers -/
namespace QW
open PySem PySem.Spec PyProof.Rows
section
variable {pg : Program} {w : PySem.World} {A : Around} {E : Value → Shared → Prop} {s : Shared}
/-- the heap behind gathering -/
def gath (h : Heap) (xs : List Value) : Heap := (h.push (seqObj "list" #[] 0)).update h.objs.size (Obj.mapSeq (· ++ xs.toArray))
theorem collect_tupQ {l : Addr} {xs : List Value} {P : List Value → Shared → Prop} (hl : ∃ o, s.heap.get? l = some o ∧ o.cls = Value.type "tuple" ∧ ∃ n, o.data = Data.seq xs.toArray n) (h : P xs { s with heap := gath s.heap xs }) (hz : xs.length ≤ sizeLine) :
    wpAny (model pg w) A (collect (.ref l)) P E s := by
  obtain ⟨o, ho, hc, n, hd⟩ := id hl
  unfold collect
  refine (wpAny_bind (wpAny_runValue (codeAny_builtin entry_proto_collect' ?_)))
  show wpAny (model pg w) _ (do again (.builtin "list.__iadd__" ⟨[← newList [], .ref l], []⟩)) _ _ s
  refine (wpAny_bind (wpAny_newList (wpAny_pure ⟨Code.quiet_builtin _ (by decide +kernel), codeAny_builtin entry_list_iadd' ?_⟩)))
  show wpAny (model pg w) _ (Builtin.List.listExtendWith (.ref s.heap.objs.size) (.ref l) (.ref s.heap.objs.size)) _ _ { s with heap := s.heap.push (seqObj "list" #[] 0) }
  unfold Builtin.List.listExtendWith
  have hp : (s.heap.push (seqObj "list" #[] 0)).get? l = some o := Heap.get?_push_of_some _ ho
  refine wpAny_bind (wpAny_typeOf (T := "tuple") ⟨o, hp, hc⟩ ?_)
  have ht : (Value.type "tuple" == Value.type "tuple") = true := rfl
  rw [if_pos (by rw [ht]; simp)]
  refine wpAny_bind (listItems_at hp hd ?_)
  refine (wpAny_bind (listItems_at (xs := #[]) (n := 0) (Heap.get?_push_size _ rfl) rfl ?_))
  rw [if_neg (by simp)]
  refine wpAny_bind (listUpdate_at (xs := #[]) (n := 0) (Heap.get?_push_size _ rfl) rfl ?_ (Nat.zero_le _) (by show (#[] ++ xs.toArray).size ≤ sizeLine + 1; simp only [Array.size_append, List.size_toArray, List.length_nil]; omega))
  refine (wpAny_pure ?_)
  show wpAny (model pg w) A (do
      let ob ← load s.heap.objs.size
      match ob.data with
      | .seq ys _ => pure ys.toList
      | _ => unsupported "internal:collect") P E { s with heap := gath s.heap xs }
  refine (wpAny_bind (wpAny_load (get?_update_seq (Heap.get?_push_size _ rfl) _) ?_))
  show wpAny (model pg w) _ (pure ((#[] : Array Value) ++ xs.toArray).toList) P E _
  rw [show ((#[] : Array Value) ++ xs.toArray).toList = xs by simp]
  exact wpAny_pure h
theorem sorted_tupQ {l : Addr} {xs : List Value} {ns : List Int} {P : Value → Shared → Prop} (hl : ∃ o, s.heap.get? l = some o ∧ o.cls = Value.type "tuple" ∧ ∃ n, o.data = Data.seq xs.toArray n) (hI : IntsAre xs ns) (hz : xs.length ≤ sizeLine)
    (h : ∀ out : List Value, SrtO.Srtd SrtO.ltIv out → SrtO.Stb SrtO.ltIv out xs → P (.ref (s.heap.objs.size + 1)) { s with heap := sortedAll s.heap xs out.toArray }) :
    wpAny (model pg w) A (call (.builtin "sorted") [.ref l]) P E s := by
  refine (Calls.call_function_entry kind_sorted plain_sorted entry_sorted (args_sorted1 _) ?_)
  unfold Builtin.«sorted»
  refine (wpAny_bind (m := checkCount "sorted" 1 1 _) (wpAny_pure ?_))
  refine wpAny_bind (collect_tupQ hl ?_ hz)
  refine (wpAny_bind (wpAny_newList ?_ hz))
  have z1 : (gath s.heap xs).objs.size = s.heap.objs.size + 1 := by
    unfold gath
    rw [Heap.size_update, size_push']
  have z2 : ((gath s.heap xs).push (seqObj "list" xs.toArray 0)).get? (s.heap.objs.size + 1) = some (seqObj "list" xs.toArray 0) := by
    rw [← z1]; exact Heap.get?_push_size _ rfl
  show wpAny (model pg w) _ _ _ _ { s with heap := (gath s.heap xs).push (seqObj "list" xs.toArray 0) }
  rw [z1]
  refine (wpAny_bind (wpAny_holding (wpAny_call_entry slot_list_sort ⟨_, z2, rfl⟩ entry_list_sort (SrtO.list_sort_ord SrtO.swo_int z2 hz (fun h2 => SrtO.ints_sortable hI h2) fun out k1 k2 => ⟨_, rfl, ?_⟩) (args_list_sort _))))
  exact wpAny_pure ⟨_, rfl, h out k1 k2⟩
end
end QW
namespace QW
open PySem PySem.Spec PyProof.Rows L2
open Q (D S R RA RB Ctl Cl Pat Mem)
def rSortTI (K : PySem.W.Frag) : List V → Hp → VK → Prop := fun vs H P => ∃ (a : Addr) (ns : List Int), vs = [V.ref a] ∧ SqT K H a (ns.map V.int) ∧ ∀ (ms : List Int) (t : Addr), ms.Perm ns → ms.Pairwise (· ≤ ·) → H t = none → P (.ref t) (upd H t (.lst (ms.map V.int)))
theorem cr_sortTI {X : Cx} : CallR X (.builtin "sorted") (rSortTI X.K) := by
  intro pins s σ H vs us P I r h
  obtain ⟨a, ns, rfl, hs, q⟩ := h
  obtain ⟨its, rv, hl, hz⟩ := I.tuple hs
  rw [Vals.ref1 r]
  have hi := rv.ints
  refine sorted_tupQ hl hi (by rw [← rv.length]; exact hz) fun out k1 k2 => ?_
  obtain ⟨j1, j2, j3⟩ := SrtO.ints_out hi k1 k2
  obtain ⟨ep, he⟩ := PyProof.Rows.sortedAll_at s.heap its out.toArray
  have hn : ((out.map SrtO.iv).map V.int).length ≤ sizeLine := by
    rw [List.length_map] at hz ⊢
    rw [j2.length_eq]
    exact hz
  exact ⟨.ref (s.heap.objs.size + 1), upd H (s.heap.objs.size + 1) (.lst ((out.map SrtO.iv).map V.int)), I.laid (t' := s.toks) (fun _ _ => PyProof.Rows.sortedAll_old) (Nat.le_succ _) ⟨hn, out, ep, vals_of_ints j1, he⟩, rfl, q _ _ j2 j3 (I.hok.fresh (Nat.le_succ _))⟩
section
variable {X : Cx} {W : WX} {G : Cfg} {a : Expr} {ea : Q.X} {p pos : Pos}
theorem q_sortedTI (hK : X.K = G.K) (hm : X.mg "sorted" = none) (ha : PE X a (tE G W ea)) (hg : Gl X "sorted" := by rfl)
    (he : starEach (a :: []) X.env = (false, eval a X.env) :: starEach [] X.env := by rfl) (hpl : (backTo pos (starEach [] X.env)).any (·.1) = false := by rfl) :
    PE X (.Call (.Name "sorted" p) [a] [] pos) (tE G W (Q.sortedTI ea)) := by
  have cr : CallR X (.builtin "sorted") (rSortTI G.K) := hK ▸ cr_sortTI
  refine (pe_callB cr hg hm (by decide +kernel) (pa_cons ha pa_nil he) (by decide) (by decide) he hpl).conv fun σ H P ⟨fm, pl, env, E, acc⟩ => tE_in E (acc_bind acc) fun pl1 d c m1 v H1 E1 s1 o1 acc1 => ?_
  obtain ⟨y, c', l, acc2⟩ := acc_rd E1 (o1.at (Ext.refl _)) acc1
  cases y with
  | tup ds =>
    have acc2 : AccR G W fm pl1 (env.wm m1) σ H1 (Q.soT m1 (Q.intsD ds)) fun _ _ _ _ v H' => P v H' := acc2
    cases q : Q.intsD ds with
    | none => rw [q] at acc2; exact acc2.elim
    | some ns =>
      rw [q] at acc2
      obtain ⟨a', vs, rfl, e, r⟩ := l.tup ds rfl
      have ev : ns.map V.int = vs := (r.intsD (Q.of_ints q)).symm
      refine ⟨a', ns, rfl, by rw [ev]; exact SqT.of e, fun ns' t pm pw ht => ?_⟩
      rw [sortI_of pm pw]
      exact acc2 _ _ _ (E1.later (same_new ht)) (ext_new ht) (fresh_lst E1 (reps_ints _) ht)
  | _ => exact acc2.elim
end
end QW

set_option Elab.async false
set_option linter.all false
set_option maxRecDepth 100000
set_option maxHeartbeats 4000000
namespace QW
open PySem PySem.Spec PyProof.Rows L2
open Q (D S R RA RB Ctl Cl Pat Mem)
/-! ### min of a list of data alike -/
theorem minD_mem : ∀ (ys : List PyData) (x : PyData), PySem.W.minD x ys ∈ x :: ys := by
  intro ys
  induction ys with
  | nil => intro x; exact List.mem_cons_self
  | cons y ys ih =>
    intro x
    show PySem.W.minD (if PySem.W.dataLt y x then y else x) ys ∈ x :: y :: ys
    by_cases q : PySem.W.dataLt y x = true
    · rw [if_pos q]; exact List.mem_cons_of_mem _ (ih y)
    · rw [if_neg q]
      rcases List.mem_cons.mp (ih x) with h | h
      · rw [h]; exact List.mem_cons_self
      · exact List.mem_cons_of_mem _ (List.mem_cons_of_mem _ h)
def rMinN (K : PySem.W.Frag) : List V → Hp → VK → Prop := fun vs H P => ∃ (a : Addr) (xs : List V) (x : PyData) (ys : List PyData), vs = [V.ref a] ∧ SqL K H a xs ∧ DpAll K H xs (x :: ys) ∧ PySem.W.AlikeAll (x :: ys) ∧
  PyData.depthAll (x :: ys) ≤ 63 ∧ ∀ (i : Nat) (v : V), xs[i]? = some v → (x :: ys)[i]? = some (PySem.W.minD x ys) → P v H
theorem cr_minN {X : Cx} (hc : X.calm = true) (hu : X.A.units + 65 < cLine) : CallR X (.builtin "min") (rMinN X.K) := by
  intro pins s σ H vs us Q I r h
  obtain ⟨a, xs, x, ys, rfl, hs, hd, al, dd, q⟩ := h
  obtain ⟨its, rv, pl, hz⟩ := I.list hs
  rw [Vals.ref1 r]
  obtain ⟨as, rd⟩ := Dp.readsAll I _ xs its hd rv
  refine PySem.W.min_list_data (x := x) (xs := ys) (I.ok.hd hc) pl.isList (by simpa using rd) al (by omega) fun i v h' tk bs hv hr hk => ?_
  have hv2 : its[i]? = some v := by simpa using hv
  have hi := (List.getElem?_eq_some_iff.mp hv2).1
  have hxl : i < xs.length := by rw [rv.length]; exact hi
  obtain ⟨u, e1, e2⟩ := rv.get (List.getElem?_eq_getElem hxl)
  rw [hv2] at e1
  cases e1
  obtain ⟨bs2, r2, hi2, _, _⟩ := PySem.W.readsAll_atA (xs := x :: ys) (by simpa using rd) i v hv
  rw [List.getD_eq_getElem?_getD, List.getElem?_eq_getElem hi2] at r2
  have e4 := PySem.W.alike_unique _ _ v _ _ (al.1 _ (List.getElem_mem hi2) _ (minD_mem ys x)) (Reads.keeps hk r2) hr
  exact ⟨_, H, I.kept hk, e2, q i _ (List.getElem?_eq_getElem hxl) (by rw [List.getElem?_eq_getElem hi2]; exact congrArg some e4)⟩
theorem okN_inj : ∀ {xs ys : List D}, Q.okN xs ys = true → toPys xs = toPys ys → xs = ys := by
  intro xs
  induction xs with
  | nil =>
    intro ys h e
    cases ys with
    | nil => rfl
    | cons y ys => exact absurd (show false = true from h) (by decide)
  | cons x xs ih =>
    intro ys h e
    cases ys with
    | nil => cases x <;> exact absurd (show false = true from h) (by decide)
    | cons y ys =>
      rw [toPys_cons, toPys_cons] at e
      injection e with e1 e2
      cases x with
      | int i =>
        cases y with
        | int j =>
          rw [toPy_int, toPy_int] at e1
          cases e1
          rw [ih h e2]
        | _ => exact absurd (show false = true from h) (by decide)
      | tup a =>
        cases y with
        | tup b =>
          have h : (if (Q.intsD a).isSome = true then (if (Q.intsD b).isSome = true then Q.okN xs ys else false) else false) = true := h
          cases ha : Q.intsD a with
          | none => rw [ha] at h; exact absurd (show false = true from h) (by decide)
          | some ks =>
            cases hb : Q.intsD b with
            | none => rw [ha, hb] at h; exact absurd (show false = true from h) (by decide)
            | some ls =>
              rw [ha, hb] at h
              rw [toPy_tup, toPy_tup, ints_of ha, ints_of hb, toPys_ints, toPys_ints] at e1
              have e3 : ks = ls := tpI_inj (by unfold tpI; exact e1)
              rw [ih h e2, ints_of ha, ints_of hb, e3]
        | _ => exact absurd (show false = true from h) (by decide)
      | _ => cases y <;> exact absurd (show false = true from h) (by decide)
theorem tnOk_tup {x y : D} (h : Q.tnOk x y = true) : ∃ xs ys, x = .tup xs ∧ y = .tup ys ∧ Q.okN xs ys = true := by
  cases x with
  | tup xs =>
    cases y with
    | tup ys => exact ⟨xs, ys, rfl, rfl, h⟩
    | _ => exact absurd (show false = true from h) (by decide)
  | _ => cases y <;> exact absurd (show false = true from h) (by decide)
theorem minN_mem : ∀ (ds : List D) (x : D), Q.minN x ds ∈ x :: ds := by
  intro ds
  induction ds with
  | nil => intro x; exact List.mem_cons_self
  | cons y ds ih =>
    intro x
    show Q.minN (if Q.tnLt y x = true then y else x) ds ∈ x :: y :: ds
    by_cases q : Q.tnLt y x = true
    · rw [if_pos q]; exact List.mem_cons_of_mem _ (ih y)
    · rw [if_neg q]
      rcases List.mem_cons.mp (ih x) with h | h
      · rw [h]; exact List.mem_cons_self
      · exact List.mem_cons_of_mem _ (List.mem_cons_of_mem _ h)
theorem tn_lt {x y : D} (h : Q.tnOk x y = true) : PySem.W.dataLt (toPy x) (toPy y) = Q.tnLt x y ∧ PySem.W.alike (toPy x) (toPy y) = true := by
  obtain ⟨xs, ys, rfl, rfl, h⟩ := tnOk_tup h
  obtain ⟨al, _, _, _, e⟩ := okN_al h
  exact ⟨by rw [toPy_tup, toPy_tup, PySem.W.dataLt_tuple, e]; rfl, by rw [toPy_tup, toPy_tup, PySem.W.alike]; exact al⟩
theorem minD_of : ∀ (ds : List D) (x : D), (∀ a ∈ x :: ds, ∀ b ∈ x :: ds, Q.tnOk a b = true) → PySem.W.minD (toPy x) (toPys ds) = toPy (Q.minN x ds) := by
  intro ds
  induction ds with
  | nil => intro x _; rw [toPys_nil]; rfl
  | cons y ds ih =>
    intro x h
    rw [toPys_cons]
    show PySem.W.minD (if PySem.W.dataLt (toPy y) (toPy x) then toPy y else toPy x) (toPys ds) = toPy (Q.minN (if Q.tnLt y x = true then y else x) ds)
    rw [(tn_lt (h y (by simp) x (by simp))).1]
    by_cases q : Q.tnLt y x = true
    · rw [if_pos q, if_pos q]; exact ih y fun a ha b hb => h a (List.mem_cons_of_mem _ ha) b (List.mem_cons_of_mem _ hb)
    · rw [if_neg q, if_neg q]
      refine ih x fun a ha b hb => h a ?_ b ?_
      · rcases List.mem_cons.mp ha with z | z
        · rw [z]; exact List.mem_cons_self
        · exact List.mem_cons_of_mem _ (List.mem_cons_of_mem _ z)
      · rcases List.mem_cons.mp hb with z | z
        · rw [z]; exact List.mem_cons_self
        · exact List.mem_cons_of_mem _ (List.mem_cons_of_mem _ z)
theorem tn_plains : ∀ {ds : List D}, (∀ a ∈ ds, Q.tnOk a a = true) → Q.D.plains ds = true ∧ Q.D.depths ds ≤ 2
  | [], _ => ⟨rfl, Nat.zero_le _⟩
  | d :: ds, h => by
    obtain ⟨p, q⟩ := tn_plains (ds := ds) fun a ha => h a (List.mem_cons_of_mem _ ha)
    obtain ⟨xs, ys, e, e2, k⟩ := tnOk_tup (h d List.mem_cons_self)
    cases e.symm.trans e2
    subst e
    obtain ⟨_, p1, _, dd, _⟩ := okN_al k
    refine ⟨by rw [Q.D.plains, p, Q.D.plain, p1]; rfl, ?_⟩
    rw [Q.D.depths, Q.D.depth]
    omega
section
variable {X : Cx} {W : WX} {G : Cfg} {a e o : Expr} {ea eo : Q.X} {p pos : Pos}
theorem q_minN (hK : X.K = G.K) (hc : X.calm = true) (hu : X.A.units + 65 < cLine) (hm : X.mg "min" = none) (ha : PE X a (tE G W ea)) (hg : Gl X "min" := by rfl)
    (he : starEach (a :: []) X.env = (false, eval a X.env) :: starEach [] X.env := by rfl) (hpl : (backTo pos (starEach [] X.env)).any (·.1) = false := by rfl) :
    PE X (.Call (.Name "min" p) [a] [] pos) (tE G W (Q.minTN ea)) :=
  (pe_callB (cr_minN hc hu) hg hm (by decide +kernel) (pa_cons ha pa_nil he) (by decide) (by decide) he hpl).conv fun σ H P ⟨fm, pl, env, E, acc⟩ => tE_in E (acc_bind acc) fun pl1 d c m1 v H1 E1 s1 o1 acc1 => by
    obtain ⟨y, c', l, acc2⟩ := acc_rd E1 (o1.at (Ext.refl _)) acc1
    cases y with
    | lst ds =>
      have acc2 : AccR G W fm pl1 (env.wm m1) σ H1 (if ds.length ≤ Q.most then Q.mnO c' m1 ds else .bad) fun _ _ _ _ v H' => P v H' := acc2
      by_cases ql : ds.length ≤ Q.most
      · rw [if_pos ql] at acc2
        cases ds with
        | nil => exact acc2.elim
        | cons x ds =>
          have acc2 : AccR G W fm pl1 (env.wm m1) σ H1 (if ((x :: ds).all fun a => (x :: ds).all fun b => Q.tnOk a b) = true then .ok (Q.minN x ds) (Q.part c' (Q.minN x ds)) m1 else .bad) fun _ _ _ _ v H' => P v H' := acc2
          by_cases qa : ((x :: ds).all fun a => (x :: ds).all fun b => Q.tnOk a b) = true
          · rw [if_pos qa] at acc2
            have hh : ∀ a ∈ x :: ds, ∀ b ∈ x :: ds, Q.tnOk a b = true := fun a ha b hb => List.all_eq_true.mp (List.all_eq_true.mp qa a ha) b hb
            obtain ⟨p0, vs0, rfl, e0, r0⟩ := l.lst
            obtain ⟨pp, dd⟩ := tn_plains fun a ha => hh a ha a ha
            have hmem : ∀ {z : PyData}, z ∈ toPy x :: toPys ds → ∃ d ∈ x :: ds, z = toPy d := fun {z} hz => by
              rw [← toPys_cons, toPys_map] at hz
              obtain ⟨d, h1, h2⟩ := List.mem_map.mp hz
              exact ⟨d, h1, h2.symm⟩
            refine ⟨p0, vs0, toPy x, toPys ds, rfl, hK ▸ SqL.of e0, ?_, ⟨fun u hu w hw => ?_, fun u hu => ?_⟩, ?_, fun i v hv hk => ?_⟩
            · rw [← toPys_cons]; exact hK ▸ dps_of r0 pp
            · obtain ⟨d1, h1, rfl⟩ := hmem hu
              obtain ⟨d2, h2, rfl⟩ := hmem hw
              exact (tn_lt (hh _ h1 _ h2)).2
            · obtain ⟨d1, h1, rfl⟩ := hmem hu
              obtain ⟨xs, ys, e1, _, _⟩ := tnOk_tup (hh _ h1 _ h1)
              rw [e1, toPy_tup]
              exact PyData.noConfusion
            · rw [← toPys_cons, depths_of]; omega
            · rw [minD_of ds x hh, ← toPys_cons, toPys_map, List.getElem?_map] at hk
              obtain ⟨d1, h1, h2⟩ := Option.map_eq_some_iff.mp hk
              have m1' := List.mem_of_getElem? h1
              obtain ⟨xs, ys, e1, e2, k⟩ := tnOk_tup (hh _ m1' _ (minN_mem ds x))
              have e3 : d1 = Q.minN x ds := by
                rw [e1, e2] at h2 ⊢
                rw [toPy_tup, toPy_tup] at h2
                injection h2 with h2
                rw [okN_inj k h2]
              rw [e3] at h1
              exact acc2 _ _ H1 E1 (Ext.refl _) (part_ok (r0.2 i v _ hv h1))
          · rw [if_neg qa] at acc2; exact acc2.elim
      · rw [if_neg ql] at acc2; exact acc2.elim
    | _ => exact acc2.elim
theorem s_remP {pa pc : Pos} (hK : X.K = G.K) (hu : X.A.units + 65 < cLine) (ho : PE X o (tE G W eo)) (he : PE X e (tE G W ea))
    (hbase : attributeBase o "remove" X.env (eval o X.env) = eval o X.env := by rfl)
    (hfew : ((backTo pc (starEach (e :: []) X.env)).all (fun x => !x.1) && (backToKw pc (keywordEach [] X.env)).all (fun x => x.1.isSome)
      && decide ((e :: []).length + ([] : List Keyword).length + (if ([] : List Keyword).isEmpty then 0 else 1) < 30)) = true := by rfl)
    (hline : (pa.endLine == pc.line) = true := by rfl) (hst : starEach (e :: []) X.env = (false, eval e X.env) :: starEach [] X.env := by rfl) (hplain : (backTo pc (starEach [] X.env)).any (·.1) = false := by rfl)
    (hs : swapsWith (.Call (.Attribute o "remove" pa) [e] [] pc) none pos.line X.env = pure false := by rfl) :
    PS X (.Expr (.Call (.Attribute o "remove" pa) [e] [] pc) pos) (tS G W (Q.sremP eo ea)) :=
  PS.conv (ps_expr (pe_bm PySem.F.plainAttrs_list PySem.F.slot_list_remove PySem.F.type_list_remove (mt_removeD hu) ho (pa_cons he pa_nil hst) hbase hfew hline hst hplain) hs) fun T σ H ⟨fm, pl, env, ks, E, acc⟩ =>
    tE_st E (accS_bind E acc) fun pl1 d c m1 v H1 E1 s1 o1 acc1 => by
      by_cases hl : Q.lsM m1 d = true
      · rw [if_pos hl] at acc1
        obtain ⟨n, ds0, rfl, z0⟩ := ls_ok hl
        obtain ⟨p, rfl, hmu, hcs, ⟨vs0, hH0, _⟩, _⟩ := cell_look E1 o1.anyR (show Q.at_ (env.wm m1).mem n = some _ from z0)
        refine ⟨.inl ⟨rfl, _, SqL.of hH0⟩, tE_st E1 (accS_bind E1 acc1) fun pl2 d2 c2 m2 v2 H2 E2 s2 o2 acc3 => ?_⟩
        obtain ⟨n', d0, d1, e1, z1, z2, acc4⟩ := accS_pt acc3
        cases e1
        have hmu2 := pre_get s2.mu hmu
        obtain ⟨p', a, b, K⟩ := E2.mem.cell n d0 (get_mem z1)
        have hpp : p' = p := Option.some.inj (a.symm.trans hmu2)
        subst hpp
        cases d0 with
        | lst ds =>
          have z2 : Q.fremT ds (Q.fIndex d2 (.lst ds)) = some d1 := z2
          have e0 : Q.fIndex d2 (.lst ds) = if Q.dataL d2 ds = true then (ds.findIdx? fun z => Q.D.eqv z d2).map fun j => D.int (j : Nat) else none := rfl
          by_cases hd : Q.dataL d2 ds = true
          · rw [e0, if_pos hd] at z2
            cases qj : ds.findIdx? fun z => Q.D.eqv z d2 with
            | none => rw [qj] at z2; cases z2
            | some j =>
              rw [qj] at z2
              have z2 : some (D.lst (ds.eraseIdx ((j : Nat) : Int).toNat)) = some d1 := z2
              rw [Int.toNat_natCast] at z2
              cases z2
              obtain ⟨p1, p3, sh1, sh2⟩ := dataL_some hd
              obtain ⟨h1, h2, h3⟩ := List.findIdx?_eq_some_iff_getElem.mp qj
              have hpp := plains_mem p3
              obtain ⟨vs, hH, rr⟩ := K
              refine ⟨p', v2, toPy d2, toPys ds, vs, j, toPy ds[j], rfl, rfl, hH, hK ▸ dps_of rr p3, hK ▸ dp_of o2.anyR p1, sh2, sh1, ?_, ?_, fun m z' hm hz => ?_, acc4 pl2 _ _ (E2.writeCell (get_mem z1) hmu2 b ⟨vs.eraseIdx j, upd_same, (rr.erase j).sub (upd_cold (.inr b))⟩)⟩
              · rw [toPys_map, List.getElem?_map, List.getElem?_eq_getElem h1]; rfl
              · rw [eqv_of (hpp _ (List.getElem_mem h1)) p1]; exact h2
              · rw [toPys_map, List.getElem?_map, List.getElem?_eq_getElem (by omega)] at hz
                cases hz
                rw [eqv_of (hpp _ (List.getElem_mem _)) p1]
                have := h3 m hm
                simpa using this
          · rw [e0, if_neg hd] at z2; cases z2
        | _ => cases z2
      · rw [if_neg hl] at acc1; exact acc1.elim
end
end QW

set_option linter.all false
set_option maxRecDepth 100000
/-! printed by gen.py: the plain forms of the text of k61_heaps -/
namespace Ev
open Q (D R)
def b_heap_put : Q.XS :=
    (Q.seq (Q.sappP (Q.var 0) (Q.var 1))
    (Q.seq (Q.sset 2 (Q.op2 Q.opSub (Q.op1 Q.fLen (Q.var 0)) (Q.con (.int 1))))
    (Q.swhile 1000000 ((Q.tand (Q.tst (Q.op2 Q.opGt (Q.var 2) (Q.con (.int 0)))) (Q.tst (Q.op2 Q.opLtN (Q.idx (Q.var 0) (Q.var 2)) (Q.idx (Q.var 0) (Q.op2 Q.opDiv (Q.op2 Q.opSub (Q.var 2) (Q.con (.int 1))) (Q.con (.int 2)))))))) (Q.seq (Q.sset 3 (Q.op2 Q.opDiv (Q.op2 Q.opSub (Q.var 2) (Q.con (.int 1))) (Q.con (.int 2))))
    (Q.seq (Q.sset 4 (Q.idx (Q.var 0) (Q.var 3)))
    (Q.seq (Q.sputP (Q.var 0) (Q.var 3) (Q.idx (Q.var 0) (Q.var 2)))
    (Q.seq (Q.sputP (Q.var 0) (Q.var 2) (Q.var 4))
    (Q.sset 2 (Q.var 3)))))))))
def heap_put : Q.F := Q.fn 5 b_heap_put
def b_l_cell_at : Q.XS :=
    (Q.seq (Q.sif (Q.tst (Q.op2 Q.opLt (Q.var 1) (Q.op1 Q.fLen (Q.var 0)))) (Q.sret (Q.idx (Q.var 0) (Q.var 1))) Q.snop)
    (Q.sret (Q.con (.int 0))))
def l_cell_at : Q.F := Q.fn 2 b_l_cell_at
def b_l_stream : Q.XS :=
    (Q.seq (Q.shot 2 (Q.lstx Q.anil))
    (Q.seq (Q.sset 3 (Q.op2 Q.opAdd (Q.op2 Q.opMod (Q.var 0) (Q.con (.int 2147483647))) (Q.con (.int 48271))))
    (Q.seq (Q.sfor (Q.irng1 (Q.op2 Q.opAdd (Q.var 1) (Q.con (.int 1)))) (.nm 4) (Q.seq (Q.sset 3 (Q.op2 Q.opMod (Q.op2 Q.opAdd (Q.op2 Q.opAdd (Q.op2 Q.opMul (Q.var 3) (Q.var 3)) (Q.op2 Q.opMul (Q.con (.int 48271)) (Q.var 3))) (Q.var 4)) (Q.con (.int 2147483647))))
    (Q.sapp 2 (Q.var 3))))
    (Q.seq (Q.sfreeze 2) (Q.sret (Q.slice (Q.var 2) (Q.osome (Q.con (.int 1))) Q.onone))))))
def l_stream : Q.F := Q.fn 5 b_l_stream
def b_l_thing : Q.XS :=
    (Q.seq (Q.sset 2 (Q.call 2 Ev.l_stream (Q.acons (Q.var 0) (Q.acons (Q.con (.int 6)) Q.anil))))
    (Q.seq (Q.sif (Q.tst (Q.op2 Q.opEq (Q.var 1) (Q.con (.int 0)))) (Q.sret (Q.tupx (Q.acons (Q.op2 Q.opMod (Q.idx (Q.var 2) (Q.con (.int 0))) (Q.con (.int 3))) (Q.acons (Q.tupOf (Q.lc [4] (Q.irng1 (Q.op2 Q.opMod (Q.idx (Q.var 2) (Q.con (.int 1))) (Q.con (.int 4)))) (.nm 4) Q.tyes (Q.op2 Q.opMod (Q.idx (Q.var 2) (Q.op2 Q.opAdd (Q.con (.int 2)) (Q.var 4))) (Q.con (.int 2))))) (Q.acons (Q.op2 Q.opMod (Q.idx (Q.var 2) (Q.con (.int 5))) (Q.con (.int 2))) Q.anil))))) Q.snop)
    (Q.seq (Q.sset 3 (Q.op2 Q.opSub (Q.op2 Q.opMod (Q.var 0) (Q.op2 Q.opAdd (Q.op2 Q.opMul (Q.con (.int 2)) (Q.op2 Q.opPow (Q.con (.int 10)) (Q.con (.int 30)))) (Q.con (.int 1)))) (Q.op2 Q.opPow (Q.con (.int 10)) (Q.con (.int 30)))))
    (Q.sret (Q.tupx (Q.acons (Q.var 3) (Q.acons (Q.tupOf (Q.lc [4] (Q.irng1 (Q.op2 Q.opMod (Q.idx (Q.var 2) (Q.con (.int 1))) (Q.con (.int 4)))) (.nm 4) Q.tyes (Q.op2 Q.opMod (Q.idx (Q.var 2) (Q.op2 Q.opAdd (Q.con (.int 2)) (Q.var 4))) (Q.con (.int 9))))) (Q.acons (Q.op2 Q.opSub (Q.idx (Q.var 2) (Q.con (.int 5))) (Q.op2 Q.opPow (Q.con (.int 10)) (Q.con (.int 9)))) Q.anil))))))))
def l_thing : Q.F := Q.fn 5 b_l_thing
def b_least_below : Q.XS :=
    (Q.seq (Q.sset 2 (Q.var 1))
    (Q.seq (Q.sfor (Q.itup (Q.tupx (Q.acons (Q.op2 Q.opAdd (Q.op2 Q.opMul (Q.con (.int 2)) (Q.var 1)) (Q.con (.int 1))) (Q.acons (Q.op2 Q.opAdd (Q.op2 Q.opMul (Q.con (.int 2)) (Q.var 1)) (Q.con (.int 2))) Q.anil)))) (.nm 3) (Q.sif ((Q.tand (Q.tst (Q.op2 Q.opLt (Q.var 3) (Q.op1 Q.fLen (Q.var 0)))) (Q.tst (Q.op2 Q.opLtN (Q.idx (Q.var 0) (Q.var 3)) (Q.idx (Q.var 0) (Q.var 2)))))) (Q.sset 2 (Q.var 3)) Q.snop))
    (Q.sret (Q.var 2))))
def least_below : Q.F := Q.fn 4 b_least_below
def b_heap_take : Q.XS :=
    (Q.seq (Q.sif (Q.tst (Q.op2 Q.opEq (Q.op1 Q.fLen (Q.var 0)) (Q.con (.int 0)))) (Q.sret (Q.con .non)) Q.snop)
    (Q.seq (Q.sset 1 (Q.idx (Q.var 0) (Q.con (.int 0))))
    (Q.seq (Q.sset 2 (Q.popP (Q.var 0)))
    (Q.seq (Q.sif (Q.tst (Q.op2 Q.opGt (Q.op1 Q.fLen (Q.var 0)) (Q.con (.int 0)))) (Q.seq (Q.sputP (Q.var 0) (Q.con (.int 0)) (Q.var 2))
    (Q.seq (Q.sset 3 (Q.con (.int 0)))
    (Q.seq (Q.sset 4 (Q.call 2 Ev.least_below (Q.acons (Q.var 0) (Q.acons (Q.var 3) Q.anil))))
    (Q.swhile 1000000 (Q.tst (Q.op2 Q.opNe (Q.var 4) (Q.var 3))) (Q.seq (Q.sset 5 (Q.idx (Q.var 0) (Q.var 4)))
    (Q.seq (Q.sputP (Q.var 0) (Q.var 4) (Q.idx (Q.var 0) (Q.var 3)))
    (Q.seq (Q.sputP (Q.var 0) (Q.var 3) (Q.var 5))
    (Q.seq (Q.sset 3 (Q.var 4))
    (Q.sset 4 (Q.call 2 Ev.least_below (Q.acons (Q.var 0) (Q.acons (Q.var 3) Q.anil)))))))))))) Q.snop)
    (Q.sret (Q.var 1))))))
def heap_take : Q.F := Q.fn 6 b_heap_take
def b_l_taken : Q.XS :=
    (Q.seq (Q.sset 2 (Q.call 1 Ev.heap_take (Q.acons (Q.var 0) Q.anil)))
    (Q.seq (Q.sif (Q.tst (Q.op2 Q.opEqE (Q.var 1) (Q.lstx Q.anil))) (Q.sret (Q.op1n Q.opIsN (Q.var 2))) Q.snop)
    (Q.seq (Q.sset 3 (Q.minTN (Q.var 1)))
    (Q.seq (Q.sremP (Q.var 1) (Q.var 3))
    (Q.sret ((Q.vand (Q.isi Q.isTup (Q.var 2)) (Q.op2 Q.opEqP (Q.var 2) (Q.var 3)))))))))
def l_taken : Q.F := Q.fn 4 b_l_taken
def b_law : Q.XS :=
    (Q.seq (Q.sset 1 (Q.call 2 Ev.l_cell_at (Q.acons (Q.var 0) (Q.acons (Q.con (.int 0)) Q.anil))))
    (Q.seq (Q.sset 2 (Q.op2 Q.opMod (Q.var 1) (Q.con (.int 2))))
    (Q.seq (Q.sset 3 (Q.lstx (Q.acons (Q.nw (Q.lstx Q.anil)) (Q.acons (Q.nw (Q.lstx Q.anil)) Q.anil))))
    (Q.seq (Q.sset 4 (Q.lstx (Q.acons (Q.nw (Q.lstx Q.anil)) (Q.acons (Q.nw (Q.lstx Q.anil)) Q.anil))))
    (Q.seq (Q.sset 5 (Q.catx (Q.call 2 Ev.l_stream (Q.acons (Q.var 1) (Q.acons (Q.op2 Q.opMod (Q.op2 Q.opDiv (Q.var 1) (Q.con (.int 2))) (Q.con (.int 41))) Q.anil))) (Q.slice (Q.var 0) Q.onone (Q.osome (Q.con (.int 63))))))
    (Q.seq (Q.sfor (Q.ilst (Q.var 5)) (.nm 6) (Q.seq (Q.sset 7 (Q.op2 Q.opMod (Q.op2 Q.opDiv (Q.var 6) (Q.con (.int 8))) (Q.op2 Q.opAdd (Q.con (.int 1)) (Q.op2 Q.opMod (Q.op2 Q.opDiv (Q.var 1) (Q.con (.int 82))) (Q.con (.int 2))))))
    (Q.sif (Q.tst (Q.op2 Q.opEq (Q.op2 Q.opMod (Q.var 6) (Q.con (.int 4))) (Q.con (.int 3)))) (Q.sif (Q.tnot (Q.tst (Q.call 2 Ev.l_taken (Q.acons (Q.idx (Q.var 3) (Q.var 7)) (Q.acons (Q.idx (Q.var 4) (Q.var 7)) Q.anil))))) (Q.sret (Q.con (.bl false))) Q.snop) (Q.seq (Q.sset 8 (Q.call 2 Ev.l_thing (Q.acons (Q.op2 Q.opDiv (Q.var 6) (Q.con (.int 4))) (Q.acons (Q.var 2) Q.anil))))
    (Q.seq (Q.sappP (Q.idx (Q.var 4) (Q.var 7)) (Q.var 8))
    (Q.sif (Q.tst (Q.op1n Q.opNotN (Q.call 2 Ev.heap_put (Q.acons (Q.idx (Q.var 3) (Q.var 7)) (Q.acons (Q.var 8) Q.anil))))) (Q.sret (Q.con (.bl false))) Q.snop))))))
    (Q.seq (Q.sfor (Q.irng1 (Q.con (.int 2))) (.nm 7) (Q.sfor (Q.irng1 (Q.op2 Q.opAdd (Q.op1 Q.fLen (Q.idx (Q.var 4) (Q.var 7))) (Q.con (.int 2)))) (.nm 9) (Q.sif (Q.tnot (Q.tst (Q.call 2 Ev.l_taken (Q.acons (Q.idx (Q.var 3) (Q.var 7)) (Q.acons (Q.idx (Q.var 4) (Q.var 7)) Q.anil))))) (Q.sret (Q.con (.bl false))) Q.snop)))
    (Q.sret (Q.con (.bl true))))))))))
def law : Q.F := Q.fn 10 b_law
end Ev

set_option linter.all false
set_option maxRecDepth 10000
namespace Q
open PySem (Str)
/-! ### what a piece of the plain side comes to -/
def Wp (c : Ctl) (P : Ctl → Prop) : Prop := P c
theorem fn_wp {n : Nat} {b : XS} {ds : List D} {m : Mem} {r : R} (h : Wp (b ⟨enter n ds, m⟩) fun c => leave c = r) : fn n b ds m = r := h
theorem fn_wpP {n : Nat} {b : XS} {ds : List D} {m : Mem} (Pr : R → Prop) (h : Wp (b ⟨enter n ds, m⟩) fun c => Pr (leave c)) : Pr (fn n b ds m) := h
theorem fnI_wpP {c n : Nat} {b : XS} {ds : List D} {m : Mem} (Pr : R → Prop) (h : Wp (b ⟨.slf c [] :: enter (n - 1) ds, m⟩) fun r => Pr (leaveI c r)) : Pr (fnI c n b ds m) := h
theorem fnIB_wpP {c n : Nat} {b : XS} {ds : List D} {m : Mem} (Pr : R → Prop) (h : Wp (b ⟨.slf c [] :: enterB (n - 1) ds, m⟩) fun r => Pr (leaveI c r)) : Pr (fnIB c n b ds m) := h
theorem wp_bind {c : Ctl} {k : Env → Ctl} {P : Ctl → Prop} (h : Wp c fun c => Wp (c.bind k) P) : Wp (c.bind k) P := h
theorem wp_imp {c : Ctl} {P P' : Ctl → Prop} (h : Wp c P) (i : ∀ c, P c → P' c) : Wp c P' := i c h
/-- the ways meet again -/
theorem wp_join {c : Ctl} {f : Env → Ctl} {P : Ctl → Prop} (Q : Env → Prop) (h : Wp c fun c => ∃ e, c = .nx e ∧ Q e) (k : ∀ e, Q e → Wp (f e) P) : Wp (c.bind f) P := by
  obtain ⟨e, rfl, q⟩ := h
  exact k e q
def Nx (I : Env → Prop) (P : Ctl → Prop) : Ctl → Prop
  | .nx e => I e
  | .ct e => I e
  | .bk e => P (.nx e)
  | c => P c
/-- a walk: I k holds ahead of the k-th turn -/
theorem wp_for {p : Pat} {b : XS} {ds : List D} {e : Env} {P : Ctl → Prop} (I : Nat → Env → Prop) (h0 : I 0 e)
    (step : ∀ k d e, ds[k]? = some d → I k e → ∃ e1, p.put d e = some e1 ∧ Wp (b e1) (Nx (I (k + 1)) P)) (fin : ∀ e, I ds.length e → P (.nx e)) : Wp (forL p b ds e) P := by
  induction ds generalizing e I with
  | nil => exact fin e h0
  | cons d r ih =>
    obtain ⟨e1, hp, hb⟩ := step 0 d e rfl h0
    unfold Wp at hb ⊢
    rw [forL, hp]
    show P (fT (forL p b r) (b e1))
    have go : ∀ e2, I 1 e2 → P (forL p b r e2) := fun e2 h => ih (fun k => I (k + 1)) h (fun k d e g => step (k + 1) d e g) fin
    cases q : b e1 with
    | nx e2 => rw [q] at hb; exact go e2 hb
    | ct e2 => rw [q] at hb; exact go e2 hb
    | bk e2 => rw [q] at hb; exact hb
    | rt d c e2 => rw [q] at hb; exact hb
    | exc k fs e2 => rw [q] at hb; exact hb
    | bad => rw [q] at hb; exact hb
/-- a walk over the images of a list: I says what holds when the items ahead are done -/
theorem wp_list {α : Type} {p : Pat} {b : XS} {xs : List α} {f : α → D} {e : Env} {P : Ctl → Prop} (I : List α → Env → Prop) (h0 : I [] e)
    (step : ∀ pre x suf e, xs = pre ++ x :: suf → I pre e → ∃ e1, p.put (f x) e = some e1 ∧ Wp (b e1) (Nx (I (pre ++ [x])) P)) (fin : ∀ e, I xs e → P (.nx e)) : Wp (forL p b (xs.map f) e) P := by
  refine wp_for (fun k e => I (xs.take k) e) (by simpa using h0) (fun k d e g h => ?_) fun e h => fin e (by simpa using h)
  simp only [List.getElem?_map, Option.map_eq_some_iff] at g
  obtain ⟨x, g, rfl⟩ := g
  obtain ⟨hk, hx⟩ := List.getElem?_eq_some_iff.mp g
  have e1 : xs = xs.take k ++ x :: xs.drop (k + 1) := by
    rw [← hx, ← List.drop_eq_getElem_cons hk, List.take_append_drop]
  have e2 : xs.take (k + 1) = xs.take k ++ [x] := by rw [List.take_add_one, g]; rfl
  obtain ⟨e', a, b⟩ := step _ x _ e e1 h
  exact ⟨e', a, by rw [e2]; exact b⟩
theorem wp_listE {α : Type} {p : Pat} {b : XS} {xs : List α} {f : α → D} {ds : List D} {e : Env} {P : Ctl → Prop} (hd : ds = xs.map f) (I : List α → Env → Prop) (h0 : I [] e)
    (step : ∀ pre x suf e, xs = pre ++ x :: suf → I pre e → ∃ e1, p.put (f x) e = some e1 ∧ Wp (b e1) (Nx (I (pre ++ [x])) P)) (fin : ∀ e, I xs e → P (.nx e)) : Wp (forL p b ds e) P := by
  subst hd; exact wp_list I h0 step fin
theorem rng_len (lo hi : Int) : (rng lo hi).length = (hi - lo).toNat := by simp [rng]
theorem rng_get {lo hi : Int} {k : Nat} {d : D} (h : ((rng lo hi).map D.int)[k]? = some d) : d = .int (lo + k) ∧ lo + k < hi := by
  simp only [rng, List.getElem?_map, List.map_map, Option.map_eq_some_iff] at h
  obtain ⟨a, h1, rfl⟩ := h
  obtain ⟨hk, rfl⟩ := List.getElem?_eq_some_iff.mp h1
  simp at hk ⊢
  omega
/-- for i in range(lo, hi) -/
theorem wp_rng {i : Nat} {b : XS} {lo hi : Int} {e : Env} {P : Ctl → Prop} (I : Int → Env → Prop) (h0 : I lo e)
    (step : ∀ k e, lo ≤ k → k < hi → I k e → Wp (b (e.set i (.cold (.int k)))) (Nx (I (k + 1)) P))
    (fin : ∀ e, I (if lo ≤ hi then hi else lo) e → P (.nx e)) : Wp (forL (.nm i) b ((rng lo hi).map D.int) e) P := by
  refine wp_for (fun k => I (lo + k)) (by simpa using h0) (fun k d e g h => ?_) fun e h => ?_
  · obtain ⟨rfl, hk⟩ := rng_get g
    refine ⟨_, rfl, ?_⟩
    have := step (lo + k) e (by omega) hk h
    have e1 : lo + (k : Int) + 1 = lo + ((k + 1 : Nat) : Int) := by omega
    rw [e1] at this
    exact this
  · refine fin e ?_
    have e1 : lo + ((((rng lo hi).map D.int).length : Nat) : Int) = if lo ≤ hi then hi else lo := by
      rw [List.length_map, rng_len]; split <;> omega
    rw [← e1]; exact h
theorem at_len (m : Mem) (x : D) (l : Mem) : at_ (m ++ some x :: l) m.length = some x := by
  unfold at_; rw [List.getElem?_append_right (Nat.le_refl _), Nat.sub_self]; rfl
theorem at_left {m l : Mem} {n : Nat} (h : n < m.length) : at_ (m ++ l) n = at_ m n := by
  unfold at_; rw [List.getElem?_append_left h]
theorem at_set {m : Mem} {n : Nat} {x : D} (h : n < m.length) : at_ (m.set n (some x)) n = some x := by
  unfold at_; rw [List.getElem?_set_self h]; rfl
theorem at_set_ne {m : Mem} {n k : Nat} {x : Option D} (h : n ≠ k) : at_ (m.set n x) k = at_ m k := by
  unfold at_; rw [List.getElem?_set_ne h]
theorem at_lt {m : Mem} {n : Nat} {x : D} (h : at_ m n = some x) : n < m.length := by
  unfold at_ at h
  cases q : m[n]? with
  | none => rw [q] at h; cases h
  | some y => exact (List.getElem?_eq_some_iff.mp q).1
/-! ### places -/
theorem ixN_of {n : Nat} {i : Int} (h0 : 0 ≤ i) (h1 : i < n) : ixN n i = some i.toNat := by simp [ixN, h0, h1]
theorem atI_of {α : Type} {xs : List α} {i : Int} (h0 : 0 ≤ i) (h1 : i < xs.length) : atI xs i = some (xs[i.toNat]'(by omega)) := by
  simp [atI, ixN_of h0 h1]
theorem atI_map {α β : Type} {xs : List α} {i : Int} (f : α → β) (h0 : 0 ≤ i) (h1 : i < xs.length) : atI (xs.map f) i = some (f (xs[i.toNat]'(by omega))) := by
  rw [atI_of h0 (by simpa using h1)]; simp
/-- the place i of a list of whole numbers -/
def gt (xs : List Int) (i : Int) : Int := xs.getD i.toNat 0
theorem atI_gt {xs : List Int} {i : Int} (h0 : 0 ≤ i) (h1 : i < xs.length) : atI (xs.map D.int) i = some (.int (gt xs i)) := by
  rw [atI_map _ h0 h1, gt, List.getD_eq_getElem?_getD, List.getElem?_eq_getElem (by omega)]; rfl
theorem atI_gtN {xs : List Int} {i : Int} (h0 : 0 ≤ i) (h1 : i < xs.length) : atI xs i = some (gt xs i) := by
  rw [atI_of h0 h1, gt, List.getD_eq_getElem?_getD, List.getElem?_eq_getElem (by omega)]; rfl
theorem gt_mem {xs : List Int} {i : Int} (h0 : 0 ≤ i) (h1 : i < xs.length) : gt xs i ∈ xs := by
  rw [gt, List.getD_eq_getElem?_getD, List.getElem?_eq_getElem (by omega)]; exact List.getElem_mem _
theorem atI_last {α : Type} {xs : List α} {x : α} : atI (xs ++ [x]) (-1) = some x := by
  have e : ixN (xs ++ [x]).length (-1) = some xs.length := by
    unfold ixN
    rw [if_neg (by omega), if_pos (by simp; omega)]
    simp
    omega
  rw [atI, e]
  simp
theorem at0 {α : Type} (a : α) (xs : List α) : atI (a :: xs) 0 = some a := by
  have h : ixN (a :: xs).length 0 = some 0 := by unfold ixN; rw [if_pos (by decide), if_pos (by simp only [List.length_cons]; omega)]; rfl
  rw [atI, h]; rfl
theorem at1 {α : Type} (a b : α) (xs : List α) : atI (a :: b :: xs) 1 = some b := by
  have h : ixN (a :: b :: xs).length 1 = some 1 := by unfold ixN; rw [if_pos (by decide), if_pos (by simp only [List.length_cons]; omega)]; rfl
  rw [atI, h]; rfl
theorem at2 {α : Type} (a b c : α) (xs : List α) : atI (a :: b :: c :: xs) 2 = some c := by
  have h : ixN (a :: b :: c :: xs).length 2 = some 2 := by unfold ixN; rw [if_pos (by decide), if_pos (by simp only [List.length_cons]; omega)]; rfl
  rw [atI, h]; rfl
theorem at3 {α : Type} (a b c d : α) (xs : List α) : atI (a :: b :: c :: d :: xs) 3 = some d := by
  have h : ixN (a :: b :: c :: d :: xs).length 3 = some 3 := by unfold ixN; rw [if_pos (by decide), if_pos (by simp only [List.length_cons]; omega)]; rfl
  rw [atI, h]; rfl
theorem at4 {α : Type} (a b c d e : α) (xs : List α) : atI (a :: b :: c :: d :: e :: xs) 4 = some e := by
  have h : ixN (a :: b :: c :: d :: e :: xs).length 4 = some 4 := by unfold ixN; rw [if_pos (by decide), if_pos (by simp only [List.length_cons]; omega)]; rfl
  rw [atI, h]; rfl
theorem at5 {α : Type} (a b c d e f : α) (xs : List α) : atI (a :: b :: c :: d :: e :: f :: xs) 5 = some f := by
  have h : ixN (a :: b :: c :: d :: e :: f :: xs).length 5 = some 5 := by unfold ixN; rw [if_pos (by decide), if_pos (by simp only [List.length_cons]; omega)]; rfl
  rw [atI, h]; rfl
theorem at6 {α : Type} (a b c d e f g : α) (xs : List α) : atI (a :: b :: c :: d :: e :: f :: g :: xs) 6 = some g := by
  have h : ixN (a :: b :: c :: d :: e :: f :: g :: xs).length 6 = some 6 := by unfold ixN; rw [if_pos (by decide), if_pos (by simp only [List.length_cons]; omega)]; rfl
  rw [atI, h]; rfl
theorem at7 {α : Type} (a b c d e f g h : α) (xs : List α) : atI (a :: b :: c :: d :: e :: f :: g :: h :: xs) 7 = some h := by
  have h : ixN (a :: b :: c :: d :: e :: f :: g :: h :: xs).length 7 = some 7 := by unfold ixN; rw [if_pos (by decide), if_pos (by simp only [List.length_cons]; omega)]; rfl
  rw [atI, h]; rfl
theorem ixN_neg {n : Nat} (h : 1 ≤ n) : ixN n (-1) = some (n - 1) := by
  unfold ixN
  rw [if_neg (by omega), if_pos (by omega)]
  congr 1
  omega
theorem sIx_le {n d : Nat} (hd : d ≤ n) (o : Option Int) : sIx n d o ≤ n := by
  unfold sIx; split
  · exact hd
  · split <;> omega
theorem mul_le {a b x y : Int} (h0 : 0 ≤ a) (h1 : a ≤ x) (h2 : 0 ≤ b) (h3 : b ≤ y) : a * b ≤ x * y :=
  Int.le_trans (Int.mul_le_mul_of_nonneg_right h1 h2) (Int.mul_le_mul_of_nonneg_left h3 (Int.le_trans h0 h1))
theorem sq_le {a n : Int} (h : -n ≤ a) (h' : a ≤ n) : a * a ≤ n * n := by
  rcases Int.le_total 0 a with p | p
  · exact mul_le p h' p h'
  · have := mul_le (a := -a) (b := -a) (x := n) (y := n) (by omega) (by omega) (by omega) (by omega)
    rwa [Int.neg_mul_neg] at this
theorem sq_nn (a : Int) : 0 ≤ a * a := by
  rcases Int.le_total 0 a with p | p
  · exact Int.mul_nonneg p p
  · have := Int.mul_nonneg (a := -a) (b := -a) (by omega) (by omega)
    rwa [Int.neg_mul_neg] at this
mutual
theorem eqv_refl : ∀ d : D, d.plain = true → D.eqv d d = true
  | .non, _ => rfl
  | .bl _, _ => by simp [D.eqv]
  | .int _, _ => by simp [D.eqv]
  | .str _, _ => by simp [D.eqv]
  | .tup xs, h => by rw [D.eqv]; rw [D.plain] at h; exact eqvs_refl xs h
  | .lst xs, h => by rw [D.eqv]; rw [D.plain] at h; exact eqvs_refl xs h
  | .frz _, h => by simp [D.plain] at h
  | .obj _ _, h => by simp [D.plain] at h
  | .dik _, h => by simp [D.plain] at h
  | .dtk _, h => by simp [D.plain] at h
  | .ptr _, h => by simp [D.plain] at h
theorem eqvs_refl : ∀ ds : List D, D.plains ds = true → D.eqvs ds ds = true
  | [], _ => rfl
  | x :: xs, h => by
    rw [D.plains, Bool.and_eq_true] at h
    rw [D.eqvs, eqv_refl x h.1, eqvs_refl xs h.2]; rfl
end
theorem plains_all : ∀ {ds : List D}, (∀ d ∈ ds, d.plain = true) → D.plains ds = true
  | [], _ => rfl
  | x :: xs, h => by rw [D.plains, h x (by simp), plains_all fun d hd => h d (by simp [hd])]; rfl
theorem depths_le : ∀ {ds : List D} {n : Nat}, (∀ d ∈ ds, d.depth ≤ n) → D.depths ds ≤ n
  | [], _, _ => by simp [D.depths]
  | x :: xs, n, h => by
    rw [D.depths]
    have := h x (by simp)
    have := depths_le (ds := xs) fun d hd => h d (by simp [hd])
    omega
theorem ne_self {d : D} (h : d.plain = true) (h2 : d.depth ≤ 64) : opNeP d d = some (.bl false) := by
  simp [h, h2, eqv_refl d h]
theorem eq_self' {d : D} (h : d.plain = true) (h2 : d.depth ≤ 64) : opEqP d d = some (.bl true) := by
  simp [h, h2, eqv_refl d h]
/-! ### comprehensions -/
theorem lc_mapA {α : Type} {p : Pat} {t : XB} {x : X} {e : Env} {m : Mem} {f : α → D} {g : α → D} {n : List α} {acc : List D}
    (h : ∀ i ∈ n, lcTurn p t x (e.wm m) (f i) = some (some (g i), m)) (hl : acc.length + n.length ≤ most) : lcLoop p t x e (n.map f) m acc = some (acc ++ n.map g, m) := by
  induction n generalizing acc with
  | nil => simp [lcLoop]
  | cons a r ih =>
    rw [List.map_cons, lcLoop, h a (by simp)]
    simp only [List.length_cons] at hl
    simp only []
    rw [if_pos (by omega), ih (fun i hi => h i (by simp [hi])) (by simp; omega)]
    simp
/-- with a test: the items that pass it -/
theorem lc_fil {α : Type} {p : Pat} {t : XB} {x : X} {e : Env} {m : Mem} {f : α → D} {g : α → D} (c : α → Bool) {n : List α} {acc : List D}
    (h : ∀ i ∈ n, lcTurn p t x (e.wm m) (f i) = some (if c i = true then some (g i) else none, m)) (hl : acc.length + n.length ≤ most) : lcLoop p t x e (n.map f) m acc = some (acc ++ (n.filter c).map g, m) := by
  induction n generalizing acc with
  | nil => simp [lcLoop]
  | cons a r ih =>
    rw [List.map_cons, lcLoop, h a (by simp)]
    simp only [List.length_cons] at hl
    by_cases q : c a = true
    · rw [if_pos q]
      simp only []
      rw [if_pos (by omega), ih (fun i hi => h i (by simp [hi])) (by simp; omega)]
      simp [q]
    · rw [if_neg q]
      simp only []
      rw [ih (fun i hi => h i (by simp [hi])) (by omega)]
      simp [q]
theorem lc_map0 {α : Type} {p : Pat} {t : XB} {x : X} {e : Env} {m : Mem} {f : α → D} (g : α → D) {n : List α}
    (h : ∀ i ∈ n, lcTurn p t x (e.wm m) (f i) = some (some (g i), m)) (hl : n.length ≤ 1000000) : lcLoop p t x e (n.map f) m [] = some (n.map g, m) := by
  have := lc_mapA (acc := []) h (by simp [most]; omega)
  simpa using this
theorem lc_fil0 {α : Type} {p : Pat} {t : XB} {x : X} {e : Env} {m : Mem} {f : α → D} (g : α → D) (c : α → Bool) {n : List α}
    (h : ∀ i ∈ n, lcTurn p t x (e.wm m) (f i) = some (if c i = true then some (g i) else none, m)) (hl : n.length ≤ 1000000) : lcLoop p t x e (n.map f) m [] = some ((n.filter c).map g, m) := by
  have := lc_fil (acc := []) c h (by simp [most]; omega)
  simpa using this
theorem mem_rng {lo hi i : Int} : i ∈ rng lo hi ↔ lo ≤ i ∧ i < hi := by
  simp only [rng, List.mem_map, List.mem_range]
  constructor
  · rintro ⟨a, h, rfl⟩; omega
  · intro h; exact ⟨(i - lo).toNat, by omega, by omega⟩
theorem lc_rng {i : Nat} {t : XB} {x : X} {e : Env} {m : Mem} {g : Int → D} {lo hi : Int}
    (h : ∀ k, lo ≤ k → k < hi → lcTurn (.nm i) t x (e.wm m) (.int k) = some (some (g k), m)) (hl : hi - lo ≤ 1000000) : lcLoop (.nm i) t x e ((rng lo hi).map .int) m [] = some ((rng lo hi).map g, m) :=
  lc_map0 g (fun k hk => h k (mem_rng.mp hk).1 (mem_rng.mp hk).2) (by rw [rng_len]; omega)
theorem lc_rngF {i : Nat} {t : XB} {x : X} {e : Env} {m : Mem} {g : Int → D} (c : Int → Bool) {lo hi : Int}
    (h : ∀ k, lo ≤ k → k < hi → lcTurn (.nm i) t x (e.wm m) (.int k) = some (if c k = true then some (g k) else none, m)) (hl : hi - lo ≤ 1000000) : lcLoop (.nm i) t x e ((rng lo hi).map .int) m [] = some (((rng lo hi).filter c).map g, m) :=
  lc_fil0 g c (fun k hk => h k (mem_rng.mp hk).1 (mem_rng.mp hk).2) (by rw [rng_len]; omega)
def absI (i : Int) : Int := if i < 0 then -i else i
theorem absI_comm (a b : Int) : absI (a - b) = absI (b - a) := by unfold absI; split <;> split <;> omega
theorem absI_nn (a : Int) : 0 ≤ absI a := by unfold absI; split <;> omega
theorem absI_lt {a b n : Int} (h0 : 0 ≤ a) (h1 : a < n) (h2 : 0 ≤ b) (h3 : b < n) : absI (a - b) < n := by unfold absI; split <;> omega
theorem tr_same (m : Mem) (r : R) : trM m m r = r := if_pos (.inl (List.take_length))
theorem tr_app (m l : Mem) (r : R) : trM m (m ++ l) r = r := if_pos (.inl (List.take_left))
theorem tr_nil (m : Mem) (r : R) : trM [] m r = r := if_pos (.inl rfl)
/-- a list, a tuple, or a list of the memory -/
def SeqV (m : Mem) (d : D) (ds : List D) : Prop := d = .tup ds ∨ d = .lst ds ∨ ∃ n, d = .ptr n ∧ at_ m n = some (.lst ds) ∧ ds.length ≤ 1000000
theorem wp_place {p : Pat} {b : XS} {ds : List D} {n : Nat} {P : Ctl → Prop} (I : Nat → Env → Prop) (hm : ∀ k e, I k e → at_ e.mem n = some (.lst ds))
    (step : ∀ k d e, ds[k]? = some d → I k e → ∃ e1, p.put d e = some e1 ∧ Wp (b e1) (Nx (I (k + 1)) P)) (fin : ∀ e, I ds.length e → P (.nx e)) : ∀ (f k : Nat) (e : Env), I k e → k ≤ ds.length → ds.length < k + f → Wp (forP n p b f k e) P := by
  intro f
  induction f with
  | zero => intro k e _ h1 h2; omega
  | succ f ih =>
    intro k e h0 h1 h2
    unfold Wp
    rw [forP, hm k e h0]
    show P (fpT p b e (forP n p b f (k + 1)) (ds[k]?))
    cases q : ds[k]? with
    | none =>
      have hl := List.getElem?_eq_none_iff.mp q
      have hk : k = ds.length := by omega
      subst hk
      exact fin e h0
    | some d =>
      have hk := (List.getElem?_eq_some_iff.mp q).1
      obtain ⟨e1, hp, hb⟩ := step k d e q h0
      show P (fO (fun e1 => fT (forP n p b f (k + 1)) (b e1)) (p.put d e))
      rw [hp]
      show P (fT (forP n p b f (k + 1)) (b e1))
      unfold Wp at hb
      have go : ∀ e2, I (k + 1) e2 → P (forP n p b f (k + 1) e2) := fun e2 h => ih (k + 1) e2 h (by omega) (by omega)
      cases q : b e1 with
      | nx e2 => rw [q] at hb; exact go e2 hb
      | ct e2 => rw [q] at hb; exact go e2 hb
      | bk e2 => rw [q] at hb; exact hb
      | rt d c e2 => rw [q] at hb; exact hb
      | exc k fs e2 => rw [q] at hb; exact hb
      | bad => rw [q] at hb; exact hb
/-- a walk over such a thing, the memory standing still -/
theorem wp_any {α : Type} {p : Pat} {b : XS} {xs : List α} {f : α → D} {e : Env} {m : Mem} {d : D} {P : Ctl → Prop} (hd : SeqV m d (xs.map f)) (he : e.mem = m) (I : List α → Env → Prop) (hm : ∀ pre e, I pre e → e.mem = m) (h0 : I [] e)
    (step : ∀ pre x suf e, xs = pre ++ x :: suf → I pre e → ∃ e1, p.put (f x) e = some e1 ∧ Wp (b e1) (Nx (I (pre ++ [x])) P)) (fin : ∀ e, I xs e → P (.nx e)) : Wp (fxV p b e .cold m d) P := by
  have hw : e.wm m = e := by subst he; rfl
  rcases hd with rfl | rfl | ⟨n, rfl, h1, h2⟩
  · show Wp (forL p b (xs.map f) (e.wm m)) P
    rw [hw]; exact wp_list I h0 step fin
  · show Wp (forL p b (xs.map f) (e.wm m)) P
    rw [hw]; exact wp_list I h0 step fin
  · show Wp (forP n p b 1000001 0 (e.wm m)) P
    rw [hw]
    refine wp_place (fun k e => I (xs.take k) e) (fun k e h => by rw [hm _ _ h]; exact h1) (fun k d e g h => ?_) (fun e h => fin e (by simpa using h)) 1000001 0 e (by simpa using h0) (by omega) (by omega)
    simp only [List.getElem?_map, Option.map_eq_some_iff] at g
    obtain ⟨x, g, rfl⟩ := g
    obtain ⟨hk, hx⟩ := List.getElem?_eq_some_iff.mp g
    have e1 : xs = xs.take k ++ x :: xs.drop (k + 1) := by
      rw [← hx, ← List.drop_eq_getElem_cons hk, List.take_append_drop]
    have e2 : xs.take (k + 1) = xs.take k ++ [x] := by rw [List.take_add_one, g]; rfl
    obtain ⟨e', a, b⟩ := step _ x _ e e1 h
    exact ⟨e', a, by rw [e2]; exact b⟩
theorem ev0 : ∀ (f : D → Cl → Mem → R) d c m, R.bind (.ok d c m) f = f d c m := by intros; rfl
theorem ev1 : ∀ (f : D → Cl → Mem → R) k fs m, R.bind (.exc k fs m) f = .exc k fs m := by intros; rfl
theorem ev2 : ∀ (f : D → Cl → Mem → R), R.bind (.bad) f = .bad := by intros; rfl
theorem ev3 : ∀ (f : D → Cl → Mem → RA) d c m, R.bindA (.ok d c m) f = f d c m := by intros; rfl
theorem ev4 : ∀ (f : D → Cl → Mem → RA) k fs m, R.bindA (.exc k fs m) f = .exc k fs m := by intros; rfl
theorem ev5 : ∀ (f : D → Cl → Mem → RA), R.bindA (.bad) f = .bad := by intros; rfl
theorem ev6 : ∀ (f : D → Cl → Mem → RB) d c m, R.bindB (.ok d c m) f = f d c m := by intros; rfl
theorem ev7 : ∀ (f : D → Cl → Mem → RB) k fs m, R.bindB (.exc k fs m) f = .exc k fs m := by intros; rfl
theorem ev8 : ∀ (f : D → Cl → Mem → RB), R.bindB (.bad) f = .bad := by intros; rfl
theorem ev9 : ∀ (f : List D → Bool → Mem → R) ds t m, RA.bind (.ok ds t m) f = f ds t m := by intros; rfl
theorem ev10 : ∀ (f : List D → Bool → Mem → R) k fs m, RA.bind (.exc k fs m) f = .exc k fs m := by intros; rfl
theorem ev11 : ∀ (f : List D → Bool → Mem → R), RA.bind (.bad) f = .bad := by intros; rfl
theorem ev12 : ∀ (f : List D → Bool → Mem → RA) ds t m, RA.bindA (.ok ds t m) f = f ds t m := by intros; rfl
theorem ev13 : ∀ (f : List D → Bool → Mem → RA) k fs m, RA.bindA (.exc k fs m) f = .exc k fs m := by intros; rfl
theorem ev14 : ∀ (f : List D → Bool → Mem → RA), RA.bindA (.bad) f = .bad := by intros; rfl
theorem ev15 : ∀ (f : Bool → Mem → R) b m, RB.bind (.ok b m) f = f b m := by intros; rfl
theorem ev16 : ∀ (f : Bool → Mem → R) k fs m, RB.bind (.exc k fs m) f = .exc k fs m := by intros; rfl
theorem ev17 : ∀ (f : Bool → Mem → R), RB.bind (.bad) f = .bad := by intros; rfl
theorem ev18 : ∀ (f : Bool → Mem → RB) b m, RB.bindB (.ok b m) f = f b m := by intros; rfl
theorem ev19 : ∀ (f : Bool → Mem → RB) k fs m, RB.bindB (.exc k fs m) f = .exc k fs m := by intros; rfl
theorem ev20 : ∀ (f : Bool → Mem → RB), RB.bindB (.bad) f = .bad := by intros; rfl
theorem ev21 : ∀ (e : Env) (f : D → Cl → Mem → Ctl) d c m, R.bindS (.ok d c m) e f = f d c m := by intros; rfl
theorem ev22 : ∀ (e : Env) (f : D → Cl → Mem → Ctl) k fs m, R.bindS (.exc k fs m) e f = .exc k fs (e.wm m) := by intros; rfl
theorem ev23 : ∀ (e : Env) (f : D → Cl → Mem → Ctl), R.bindS (.bad) e f = .bad := by intros; rfl
theorem ev24 : ∀ (e : Env) (f : List D → Bool → Mem → Ctl) ds t m, RA.bindS (.ok ds t m) e f = f ds t m := by intros; rfl
theorem ev25 : ∀ (e : Env) (f : List D → Bool → Mem → Ctl) k fs m, RA.bindS (.exc k fs m) e f = .exc k fs (e.wm m) := by intros; rfl
theorem ev26 : ∀ (e : Env) (f : List D → Bool → Mem → Ctl), RA.bindS (.bad) e f = .bad := by intros; rfl
theorem ev27 : ∀ (e : Env) (f : Bool → Mem → Ctl) b m, RB.bindS (.ok b m) e f = f b m := by intros; rfl
theorem ev28 : ∀ (e : Env) (f : Bool → Mem → Ctl) k fs m, RB.bindS (.exc k fs m) e f = .exc k fs (e.wm m) := by intros; rfl
theorem ev29 : ∀ (e : Env) (f : Bool → Mem → Ctl), RB.bindS (.bad) e f = .bad := by intros; rfl
theorem ev30 : ∀ (f : Env → Ctl) e, Ctl.bind (.nx e) f = f e := by intros; rfl
theorem ev31 : ∀ (m : Mem) d, ofO m (some d) = .ok d .cold m := by intros; rfl
theorem ev32 : ∀ (m : Mem), ofO m (none) = .bad := by intros; rfl
theorem ev33 : ∀ (m : Mem) (d : D), nwS m d (.fresh) = .ok (.ptr m.length) .cold (m ++ [some d]) := by intros; rfl
theorem ev34 : ∀ (m : Mem) d, varS m (some (.cold d)) = .ok d .cold m := by intros; rfl
theorem ev35 : ∀ (m : Mem) d, varS m (some (.hot d)) = .ok d .hot m := by intros; rfl
theorem ev36 : ∀ (m : Mem) c ds, varS m (some (.slf c ds)) = .ok (.obj c ds) .hot m := by intros; rfl
theorem ev37 : ∀ (m : Mem) d, varS m (some (.bor d)) = .ok d .taint m := by intros; rfl
theorem ev38 : ∀ (i : Nat) e, var i e = varS e.mem (e.get i) := by intros; rfl
theorem ev39 : ∀ (d : D) e, con d e = .ok d .cold e.mem := by intros; rfl
theorem ev40 : ∀ (f : D → Option D) (a : X) e, op1 f a e = (a e).bind fun x c m => rd m x c fun x _ => ofO m (f x) := by intros; rfl
theorem ev41 : ∀ (f : D → Option D) (a : X) e, op1n f a e = (a e).bind fun x _ m => ofO m (f x) := by intros; rfl
theorem ev42 : ∀ (f : D → D → Option D) (a b : X) e, op2 f a b e = (a e).bind fun x c m => (b (e.wm m)).bind fun y c' m => rd m x c fun x _ => rd m y c' fun y _ => ofO m (f x y) := by intros; rfl
theorem ev43 : ∀ (m : Mem) (r : R), chS m r (some (.bl true)) = r := by intros; rfl
theorem ev44 : ∀ (m : Mem) (r : R), chS m r (some (.bl false)) = .ok (.bl false) .cold m := by intros; rfl
theorem ev45 : ∀ (m : Mem) (r : R), orS m r (some (.bl true)) = .ok (.bl true) .cold m := by intros; rfl
theorem ev46 : ∀ (m : Mem) (r : R), orS m r (some (.bl false)) = r := by intros; rfl
theorem ev47 : ∀ (f g : D → D → Option D) (a b c : X) e, chain f g a b c e = (a e).bind fun x _ m => (b (e.wm m)).bind fun y _ m => chS m ((c (e.wm m)).bind fun z _ m => ofO m (g y z)) (f x y) := by intros; rfl
theorem ev48 : ∀ (m : Mem) b, tstS m (.bl b) = .ok b m := by intros; rfl
theorem ev49 : ∀ (a : X) e, tst a e = (a e).bindB fun d _ m => tstS m d := by intros; rfl
theorem ev50 : ∀ (a b : XB) e, tand a b e = (a e).bindB fun k m => if k = true then b (e.wm m) else .ok false m := by intros; rfl
theorem ev51 : ∀ (a b : XB) e, tor a b e = (a e).bindB fun k m => if k = true then .ok true m else b (e.wm m) := by intros; rfl
theorem ev52 : ∀ (a : XB) e, tnot a e = (a e).bindB fun k m => .ok (!k) m := by intros; rfl
theorem ev53 : ∀ e, tyes e = .ok true e.mem := by intros; rfl
theorem ev54 : ∀ (a b : X) e, vand a b e = (a e).bind fun d _ m => chS m (b (e.wm m)) (some d) := by intros; rfl
theorem ev55 : ∀ (a b : X) e, vor a b e = (a e).bind fun d _ m => orS m (b (e.wm m)) (some d) := by intros; rfl
theorem ev56 : ∀ (m : Mem) b, ntS m (.bl b) = .ok (.bl (!b)) .cold m := by intros; rfl
theorem ev57 : ∀ (a : X) e, vnot a e = (a e).bind fun d _ m => ntS m d := by intros; rfl
theorem ev58 : ∀ (t : XB) (a b : X) e, cond t a b e = (t e).bind fun k m => if k = true then a (e.wm m) else b (e.wm m) := by intros; rfl
theorem ev59 : ∀ (d : D), dirty (.hot) d = true := by intros; rfl
theorem ev60 : ∀ (d : D), dirty (.taint) d = !d.scalar := by intros; rfl
theorem ev61 : ∀ (a : X) e, nw a e = (a e).bind fun d c m => nwS m d c := by intros; rfl
theorem ev62 : ∀ e, anil e = .ok [] false e.mem := by intros; rfl
theorem ev63 : ∀ (a : X) (r : XA) e, acons a r e = (a e).bindA fun d c m => (r (e.wm m)).bindA fun ds t m => .ok (d :: ds) (dirty c d || t) m := by intros; rfl
theorem ev64 : ∀ (a : XA) e, tupx a e = (a e).bind fun ds t m => if ds.length ≤ most then .ok (.tup ds) (if t = true then .taint else .cold) m else .bad := by intros; rfl
theorem ev65 : ∀ (a : XA) e, lstx a e = (a e).bind fun ds t m => if ds.length ≤ most then .ok (.lst ds) (if t = true then .taint else .fresh) m else .bad := by intros; rfl
theorem ev66 : ∀ (d : D), part (.taint) d = if d.scalar = true then .cold else .taint := by intros; rfl
theorem ev67 : outB (.fresh) = .fresh := by intros; rfl
theorem ev68 : ∀ d c m, back (.ok d c m) = .ok d (outB c) m := by intros; rfl
theorem ev69 : ∀ (d : D), post d (.fresh) = if d.flat = true then .fresh else .taint := by intros; rfl
theorem ev70 : ∀ (m : Mem) d c m', lent m (.ok d c m') = if m'.length = m.length then .ok d (post d c) m else .bad := by intros; rfl
theorem ev71 : ∀ (m : Mem) k fs m', lent m (.exc k fs m') = if m'.length = m.length ∧ fs.all D.scalar = true then .exc k fs m else .bad := by intros; rfl
theorem ev72 : ∀ (m : Mem), lent m (.bad) = .bad := by intros; rfl
theorem ev73 : ∀ (t : Bool) (g : F) (ds : List D) (m : Mem), run t g ds m = if t = true then lent m (g ds (dead m)) else back (g ds m) := by intros; rfl
theorem ev74 : ∀ (n : Nat) (g : F) (a : XA) e, call n g a e = (a e).bind fun ds t m => if ds.length = n then run t g ds m else .bad := by intros; rfl
theorem ev75 : ∀ (m : Mem) d c w1, own m (.ok d c w1) = if d.noptr = true then .ok d c m else .bad := by intros; rfl
theorem ev76 : ∀ (m : Mem) k fs w1, own m (.exc k fs w1) = if D.noptrs fs = true then .exc k fs m else .bad := by intros; rfl
theorem ev77 : ∀ (m : Mem), own m (.bad) = .bad := by intros; rfl
theorem ev78 : ∀ (g : F) ds m, lone g ds m = if D.noptrs ds = true then own m (g ds []) else .bad := by intros; rfl
theorem ev79 : ∀ (n : Nat) (dl : List D) (g : F) ds m, dft n dl g ds m = if dl.length ≤ n then g (ds ++ dl) m else .bad := by intros; rfl
theorem ev80 : ∀ d m w1, freshR (.ok d w1 m) = .ok d .fresh m := by intros; rfl
theorem ev81 : ∀ (t : Bool) (cl : Cl) (m : Mem) d m' w1, lentR t cl m (.ok d w1 m') = if m'.length = m.length then .ok d cl m else .bad := by intros; rfl
theorem ev82 : ∀ (t : Bool) (cl : Cl) (m : Mem) k fs m', lentR t cl m (.exc k fs m') = if m'.length = m.length ∧ (t = false ∨ fs.all D.scalar = true) then .exc k fs m else .bad := by intros; rfl
theorem ev83 : ∀ (t : Bool) (cl : Cl) (m : Mem), lentR t cl m (.bad) = .bad := by intros; rfl
theorem ev84 : ∀ (t : Bool) (g : F) (ds : List D) (m : Mem), mkR t g ds m = if t = true then lentR true .taint m (g ds (dead m)) else freshR (g ds m) := by intros; rfl
theorem ev85 : ∀ (n : Nat) (g : F) (a : XA) e, mk n g a e = (a e).bind fun ds t m => if ds.length = n then mkR t g ds m else .bad := by intros; rfl
theorem ev86 : ∀ (n : Nat) (g : F) (a : XA) e, mkN n g a e = (a e).bind fun ds t m => if ds.length = n then lentR t .fresh m (g ds (dead m)) else .bad := by intros; rfl
theorem ev87 : ∀ (c : Nat) e, mk0 c e = .ok (.obj c []) .fresh e.mem := by intros; rfl
theorem ev88 : ∀ (r : R), orxS r (.bad) = r := by intros; rfl
theorem ev89 : ∀ (a b : X) e, orx a b e = orxS (b e) (a e) := by intros; rfl
theorem ev90 : ∀ (n m : Nat) (g : F) (e : Env) (a : XA) (c : Cl) (μ : Mem) k fs, meS n m g e a c μ (.obj k fs) = if k = n then (a (e.wm μ)).bind fun ds t μ => (if ds.length = m then run (dirty c (.obj k fs) || t) g (.obj k fs :: ds) μ else .bad) else .bad := by intros; rfl
theorem ev91 : ∀ (n m : Nat) (g : F) (o : X) (a : XA) e, meth n m g o a e = (o e).bind fun d c μ => meS n m g e a c μ d := by intros; rfl
theorem ev92 : ∀ (n m : Nat) (g : F) (e : Env) (a : XA) (p : Nat) (μ : Mem) k w1, mpS n m g e a p μ (some (.obj k w1)) = if k = n then (a (e.wm μ)).bind fun ds t μ => (if ds.length = m then run t g (.ptr p :: ds) μ else .bad) else .bad := by intros; rfl
theorem ev93 : ∀ (n m : Nat) (g : F) (e : Env) (a : XA) (μ : Mem) p, mpT n m g e a μ (.ptr p) = mpS n m g e a p μ (at_ μ p) := by intros; rfl
theorem ev94 : ∀ (n m : Nat) (g : F) (o : X) (a : XA) e, methP n m g o a e = (o e).bind fun d _ μ => mpT n m g e a μ d := by intros; rfl
theorem ev95 : ∀ (c : Cl) (m : Mem) x, flT c m (some x) = .ok x (part c x) m := by intros; rfl
theorem ev96 : ∀ (c : Cl) (m : Mem), flT c m (none) = .bad := by intros; rfl
theorem ev97 : ∀ (n k : Nat) (c : Cl) (m : Mem) q fs, flS n k c m (.obj q fs) = if q = n then flT c m (fs[k]?) else .bad := by intros; rfl
theorem ev98 : ∀ (n k : Nat) (o : X) e, fld n k o e = (o e).bind fun d c m => rd m d c fun d c => flS n k c m d := by intros; rfl
theorem ev99 : ∀ xs i, item (.lst xs) (.int i) = atI xs i := by intros; rfl
theorem ev100 : ∀ xs i, item (.tup xs) (.int i) = atI xs i := by intros; rfl
theorem ev101 : ∀ ns i, item (.frz ns) (.int i) = (atI ns i).map D.int := by intros; rfl
theorem ev102 : ∀ (a b : X) e, idx a b e = (a e).bind fun x c m => (b (e.wm m)).bind fun y _ m => rd m x c fun x c => flT c m (item x y) := by intros; rfl
theorem ev103 : ∀ (f : Option Int → Mem → R) o m, RO.bind (.ok o m) f = f o m := by intros; rfl
theorem ev104 : ∀ (f : Option Int → Mem → R), RO.bind (.bad) f = .bad := by intros; rfl
theorem ev105 : ∀ e, onone e = .ok none e.mem := by intros; rfl
theorem ev106 : ∀ i m w1, osS (.ok (.int i) w1 m) = .ok (some i) m := by intros; rfl
theorem ev107 : ∀ (a : X) e, osome a e = osS (a e) := by intros; rfl
theorem ev108 : ∀ (ds : List D), again (.taint) ds = if ds.all D.scalar = true then .fresh else .taint := by intros; rfl
theorem ev109 : ∀ (c : Cl) (l h : Option Int) (m : Mem) xs, slS c l h m (.lst xs) = .ok (.lst (cut xs l h)) (again c (cut xs l h)) m := by intros; rfl
theorem ev110 : ∀ (c : Cl) (l h : Option Int) (m : Mem) ns, slS c l h m (.frz ns) = .ok (.lst ((cut ns l h).map D.int)) .fresh m := by intros; rfl
theorem ev111 : ∀ (c : Cl) (l h : Option Int) (m : Mem) xs, slS c l h m (.tup xs) = if sIx xs.length 0 l = 0 ∧ sIx xs.length xs.length h = xs.length then .ok (.tup xs) (part c (.tup xs)) m else .ok (.tup (cut xs l h)) (part c (.tup (cut xs l h))) m := by intros; rfl
theorem ev112 : ∀ (a : X) (lo hi : XO) e, slice a lo hi e = (a e).bind fun x c m => (lo (e.wm m)).bind fun l m => (hi (e.wm m)).bind fun h m => rd m x c fun x c => slS c l h m x := by intros; rfl
theorem ev113 : ∀ xs, items (.lst xs) = some xs := by intros; rfl
theorem ev114 : ∀ xs, items (.tup xs) = some xs := by intros; rfl
theorem ev115 : ∀ ns, items (.frz ns) = some (ns.map D.int) := by intros; rfl
theorem ev116 : ∀ (c : Cl) (m : Mem) ds, loS c m (some ds) = .ok (.lst ds) (again c ds) m := by intros; rfl
theorem ev117 : ∀ (c : Cl) (m : Mem), loS c m (none) = .bad := by intros; rfl
theorem ev118 : ∀ (a : X) e, listOf a e = (a e).bind fun x c m => rd m x c fun x c => loS c m (items x) := by intros; rfl
theorem ev119 : ∀ (m : Mem) a b, lrS m (.int a) (.int b) = if (-4000000000 < a ∧ a < 4000000000) ∧ (-4000000000 < b ∧ b < 4000000000) ∧ b - a ≤ 1000000 then .ok (.lst (((List.range (b - a).toNat).map fun (i : Nat) => a + (i : Int)).map D.int)) .fresh m else .bad := by intros; rfl
theorem ev120 : ∀ (lo hi : X) e, listRng lo hi e = (lo e).bind fun x _ m => (hi (e.wm m)).bind fun y _ m => lrS m x y := by intros; rfl
theorem ev121 : ∀ (c : Cl) (m : Mem) ds, tuS c m (.lst ds) = .ok (.tup ds) (part c (.tup ds)) m := by intros; rfl
theorem ev122 : ∀ (c : Cl) (m : Mem) ds, tuS c m (.tup ds) = .ok (.tup ds) (part c (.tup ds)) m := by intros; rfl
theorem ev123 : ∀ (a : X) e, tupOf a e = (a e).bind fun x c m => rd m x c fun x c => tuS c m x := by intros; rfl
theorem ev124 : agC (.fresh) (.fresh) = .fresh := by intros; rfl
theorem ev125 : ∀ (c c' : Cl) (m : Mem) xs ys, caS c c' m (.lst xs) (.lst ys) = if xs.length + ys.length ≤ most then .ok (.lst (xs ++ ys)) (agC (again c xs) (again c' ys)) m else .bad := by intros; rfl
theorem ev126 : ∀ (a b : X) e, catx a b e = (a e).bind fun x c m => (b (e.wm m)).bind fun y c' m => rd m x c fun x c => rd m y c' fun y c' => caS c c' m x y := by intros; rfl
theorem ev127 : ∀ (c c' : Cl) (m : Mem) xs ys, ctS c c' m (.tup xs) (.tup ys) = if xs.length + ys.length ≤ most ∧ xs ≠ [] ∧ ys ≠ [] then .ok (.tup (xs ++ ys)) (if (c = .taint ∨ c' = .taint) then .taint else .cold) m else .bad := by intros; rfl
theorem ev128 : ∀ (a b : X) e, catt a b e = (a e).bind fun x c m => (b (e.wm m)).bind fun y c' m => rd m x c fun x c => rd m y c' fun y c' => ctS c c' m x y := by intros; rfl
theorem ev129 : ∀ (c : Cl) (m : Mem) xs k, reS c m (.lst xs) (.int k) = if k ≤ 1000000 ∧ -1000000 ≤ k ∧ xs.length * k.toNat ≤ most then .ok (.lst (repD xs k)) (again c xs) m else .bad := by intros; rfl
theorem ev130 : ∀ (a b : X) e, repx a b e = (a e).bind fun x c m => (b (e.wm m)).bind fun y _ m => rd m x c fun x c => reS c m x y := by intros; rfl
theorem ev131 : ∀ i j, opAdd (.int i) (.int j) = some (.int (i + j)) := by intros; rfl
theorem ev132 : ∀ i j, opSub (.int i) (.int j) = some (.int (i - j)) := by intros; rfl
theorem ev133 : ∀ i j, opMul (.int i) (.int j) = if (-big < i ∧ i < big) ∧ -big < j ∧ j < big then some (.int (i * j)) else none := by intros; rfl
theorem ev134 : ∀ i j, opDiv (.int i) (.int j) = if 0 < j ∧ j < big then some (.int (i / j)) else none := by intros; rfl
theorem ev135 : ∀ i j, opMod (.int i) (.int j) = if 0 < j then some (.int (i % j)) else none := by intros; rfl
theorem ev136 : ∀ i j, opPow (.int i) (.int j) = if 0 ≤ j ∧ j ≤ 1000 ∧ -1000 < i ∧ i < 1000 then some (.int (i ^ j.toNat)) else none := by intros; rfl
theorem ev137 : ∀ i, opNeg (.int i) = some (.int (-i)) := by intros; rfl
theorem ev138 : ∀ i j, opLt (.int i) (.int j) = some (.bl (decide (i < j))) := by intros; rfl
theorem ev139 : ∀ i j, opLe (.int i) (.int j) = some (.bl (decide (i ≤ j))) := by intros; rfl
theorem ev140 : ∀ i j, opGt (.int i) (.int j) = some (.bl (decide (j < i))) := by intros; rfl
theorem ev141 : ∀ i j, opGe (.int i) (.int j) = some (.bl (decide (j ≤ i))) := by intros; rfl
theorem ev142 : eqS (.non) (.non) = some true := by intros; rfl
theorem ev143 : ∀ i j, eqS (.int i) (.int j) = some (decide (i = j)) := by intros; rfl
theorem ev144 : ∀ i j, eqS (.bl i) (.bl j) = some (decide (i = j)) := by intros; rfl
theorem ev145 : ∀ i j, eqS (.str i) (.str j) = some (decide (i = j)) := by intros; rfl
theorem ev146 : ∀ w1, eqS (.non) (.int w1) = some false := by intros; rfl
theorem ev147 : ∀ w1, eqS (.int w1) (.non) = some false := by intros; rfl
theorem ev148 : ∀ w1, eqS (.non) (.bl w1) = some false := by intros; rfl
theorem ev149 : ∀ w1, eqS (.bl w1) (.non) = some false := by intros; rfl
theorem ev150 : ∀ w1, eqS (.non) (.str w1) = some false := by intros; rfl
theorem ev151 : ∀ w1, eqS (.str w1) (.non) = some false := by intros; rfl
theorem ev152 : ∀ w1 w2, eqS (.int w1) (.str w2) = some false := by intros; rfl
theorem ev153 : ∀ w1 w2, eqS (.str w1) (.int w2) = some false := by intros; rfl
theorem ev154 : ∀ w1 w2, eqS (.bl w1) (.str w2) = some false := by intros; rfl
theorem ev155 : ∀ w1 w2, eqS (.str w1) (.bl w2) = some false := by intros; rfl
theorem ev156 : ∀ (x y : D), opEq x y = (eqS x y).map D.bl := by intros; rfl
theorem ev157 : ∀ (x y : D), opNe x y = (eqS x y).map fun b => D.bl (!b) := by intros; rfl
theorem ev158 : ∀ (x : D) ds, opIn x (.lst ds) = (memP x ds).map D.bl := by intros; rfl
theorem ev159 : ∀ (x : D) ds, opIn x (.tup ds) = (memP x ds).map D.bl := by intros; rfl
theorem ev160 : ∀ (x : D) ds, opNotIn x (.lst ds) = (memP x ds).map fun b => D.bl (!b) := by intros; rfl
theorem ev161 : ∀ (x : D) ds, opNotIn x (.tup ds) = (memP x ds).map fun b => D.bl (!b) := by intros; rfl
theorem ev162 : ∀ xs, fLen (.lst xs) = some (.int xs.length) := by intros; rfl
theorem ev163 : ∀ xs, fLen (.tup xs) = some (.int xs.length) := by intros; rfl
theorem ev164 : ∀ xs, fLen (.frz xs) = some (.int xs.length) := by intros; rfl
theorem ev165 : ∀ i, fAbs (.int i) = some (.int (absI i)) := by intros; rfl
theorem ev166 : ∀ i j, fMax2 (.int i) (.int j) = some (.int (if j > i then j else i)) := by intros; rfl
theorem ev167 : ∀ i j, fMin2 (.int i) (.int j) = some (.int (if j < i then j else i)) := by intros; rfl
theorem ev168 : ∀ ds, fMax (.lst ds) = fMxS maxI (intsD ds) := by intros; rfl
theorem ev169 : ∀ ds, fMin (.lst ds) = fMxS minI (intsD ds) := by intros; rfl
theorem ev170 : ∀ ds, fAny (.lst ds) = (bools ds).map fun bs => D.bl (bs.any id) := by intros; rfl
theorem ev171 : ∀ ds, fAll (.lst ds) = (bools ds).map fun bs => D.bl (bs.all id) := by intros; rfl
theorem ev172 : ∀ (m : Mem) ns, soT m (some ns) = .ok (.lst ((sortI ns).map D.int)) .fresh m := by intros; rfl
theorem ev173 : ∀ (m : Mem), soT m (none) = .bad := by intros; rfl
theorem ev174 : ∀ (m : Mem) ds, soS m (.lst ds) = soT m (intsD ds) := by intros; rfl
theorem ev175 : ∀ (a : X) e, sortedI a e = (a e).bind fun x c m => rd m x c fun x _ => soS m x := by intros; rfl
theorem ev176 : ∀ (m : Mem) b, blO m (some b) = .ok (.bl b) .cold m := by intros; rfl
theorem ev177 : ∀ (m : Mem), blO m (none) = .bad := by intros; rfl
theorem ev178 : ∀ (p : D → Option Bool) (a : X) e, isi p a e = (a e).bind fun d c m => rd m d c fun d _ => blO m (p d) := by intros; rfl
theorem ev179 : ∀ w1, isTup (.tup w1) = some true := by intros; rfl
theorem ev180 : ∀ w1, isTup (.lst w1) = some false := by intros; rfl
theorem ev181 : ∀ w1, isTup (.int w1) = some false := by intros; rfl
theorem ev182 : ∀ w1, isTup (.bl w1) = some false := by intros; rfl
theorem ev183 : ∀ w1, isTup (.str w1) = some false := by intros; rfl
theorem ev184 : isTup (.non) = some false := by intros; rfl
theorem ev185 : ∀ w1, isLst (.lst w1) = some true := by intros; rfl
theorem ev186 : ∀ w1, isLst (.tup w1) = some false := by intros; rfl
theorem ev187 : ∀ w1, isLst (.int w1) = some false := by intros; rfl
theorem ev188 : ∀ w1, isLst (.bl w1) = some false := by intros; rfl
theorem ev189 : ∀ w1, isLst (.str w1) = some false := by intros; rfl
theorem ev190 : isLst (.non) = some false := by intros; rfl
theorem ev191 : ∀ w1, isTL (.lst w1) = some true := by intros; rfl
theorem ev192 : ∀ w1, isTL (.tup w1) = some true := by intros; rfl
theorem ev193 : ∀ w1, isTL (.int w1) = some false := by intros; rfl
theorem ev194 : ∀ w1, isTL (.bl w1) = some false := by intros; rfl
theorem ev195 : ∀ w1, isTL (.str w1) = some false := by intros; rfl
theorem ev196 : isTL (.non) = some false := by intros; rfl
theorem ev197 : ∀ w1, isBl (.bl w1) = some true := by intros; rfl
theorem ev198 : ∀ w1, isBl (.lst w1) = some false := by intros; rfl
theorem ev199 : ∀ w1, isBl (.tup w1) = some false := by intros; rfl
theorem ev200 : ∀ w1, isBl (.int w1) = some false := by intros; rfl
theorem ev201 : ∀ w1, isBl (.str w1) = some false := by intros; rfl
theorem ev202 : isBl (.non) = some false := by intros; rfl
theorem ev203 : ∀ w1, isInt (.bl w1) = some true := by intros; rfl
theorem ev204 : ∀ w1, isInt (.int w1) = some true := by intros; rfl
theorem ev205 : ∀ w1, isInt (.lst w1) = some false := by intros; rfl
theorem ev206 : ∀ w1, isInt (.tup w1) = some false := by intros; rfl
theorem ev207 : ∀ w1, isInt (.str w1) = some false := by intros; rfl
theorem ev208 : isInt (.non) = some false := by intros; rfl
theorem ev209 : ∀ w1, isStr (.str w1) = some true := by intros; rfl
theorem ev210 : ∀ w1, isStr (.lst w1) = some false := by intros; rfl
theorem ev211 : ∀ w1, isStr (.tup w1) = some false := by intros; rfl
theorem ev212 : ∀ w1, isStr (.int w1) = some false := by intros; rfl
theorem ev213 : ∀ w1, isStr (.bl w1) = some false := by intros; rfl
theorem ev214 : isStr (.non) = some false := by intros; rfl
theorem ev215 : ∀ (p : Nat → Option Bool) c w1, isO p (.obj c w1) = p c := by intros; rfl
theorem ev216 : ∀ kvs k, dget (.dik kvs) (.int k) = some (valK kvs k) := by intros; rfl
theorem ev217 : ∀ kvs ks, dget (.dtk kvs) (.tup ks) = (intsD ks).map (valK kvs) := by intros; rfl
theorem ev218 : ∀ (v : D) kvs k, dput v (.dik kvs) (.int k) = if kvs.length < most then some (.dik (putK kvs k v)) else none := by intros; rfl
theorem ev219 : ∀ (v : D) kvs ks, dput v (.dtk kvs) (.tup ks) = (intsD ks).bind fun k => if kvs.length < most then some (.dtk (putK kvs k v)) else none := by intros; rfl
theorem ev220 : ∀ (m : Mem) (c : Cl) v, diS m c (some (some v)) = .ok v (part c v) m := by intros; rfl
theorem ev221 : ∀ (a b : X) e, didx a b e = (a e).bind fun x c m => (b (e.wm m)).bind fun y _ m => rd m x c fun x c => diS m c (dget x y) := by intros; rfl
theorem ev222 : ∀ (m : Mem) (n : Bool) o, dnS m n (some o) = .ok (.bl (if n = true then !o.isSome else o.isSome)) .cold m := by intros; rfl
theorem ev223 : ∀ (n : Bool) (a b : X) e, din n a b e = (a e).bind fun y _ m => (b (e.wm m)).bind fun x c m => rd m x c fun x _ => dnS m n (dget x y) := by intros; rfl
theorem ev224 : ∀ (m : Mem) (c : Cl) (z : D) (cz : Cl) v, dgS m c z cz (some (some v)) = .ok v (part c v) m := by intros; rfl
theorem ev225 : ∀ (m : Mem) (c : Cl) (z : D) (cz : Cl), dgS m c z cz (some none) = .ok z (if cz = .taint then .taint else .cold) m := by intros; rfl
theorem ev226 : ∀ w1, isDic (.dik w1) = true := by intros; rfl
theorem ev227 : ∀ w1, isDic (.dtk w1) = true := by intros; rfl
theorem ev228 : ∀ (m : Mem) n, isDM m (.ptr n) = (at_ m n).any isDic := by intros; rfl
theorem ev229 : ∀ (a b : X) e, dgt1 a b e = (a e).bind fun x c m => if isDM m x = true then (b (e.wm m)).bind fun y _ m => rd m x c fun x c => dgS m c .non .cold (dget x y) else .bad := by intros; rfl
theorem ev230 : ∀ (a b z : X) e, dgt2 a b z e = (a e).bind fun x c m => if isDM m x = true then (b (e.wm m)).bind fun y _ m => (z (e.wm m)).bind fun w cz m => if dirty cz w = true then .bad else rd m x c fun x c => dgS m c w .cold (dget x y) else .bad := by intros; rfl
theorem ev231 : ∀ e, dnewI e = .ok (.dik []) .fresh e.mem := by intros; rfl
theorem ev232 : ∀ e, dnewT e = .ok (.dtk []) .fresh e.mem := by intros; rfl
theorem ev233 : ∀ (m : Mem) ds, ilS m (.cold) (.lst ds) = .ok ds false m := by intros; rfl
theorem ev234 : ∀ (m : Mem) ds, ilS m (.fresh) (.lst ds) = .ok ds false m := by intros; rfl
theorem ev235 : ∀ (m : Mem) ns, ilS m (.cold) (.frz ns) = .ok (ns.map D.int) false m := by intros; rfl
theorem ev236 : ∀ (a : X) e, ilst a e = (a e).bindA fun x c m => ilS m c x := by intros; rfl
theorem ev237 : ∀ (m : Mem) ds, iuS m (.cold) (.tup ds) = .ok ds false m := by intros; rfl
theorem ev238 : ∀ (a : X) e, itup a e = (a e).bindA fun x c m => iuS m c x := by intros; rfl
theorem ev239 : ∀ (m : Mem) n, i1S m (.int n) = if -lim ≤ n ∧ n < lim then .ok ((rng 0 n).map D.int) false m else .bad := by intros; rfl
theorem ev240 : ∀ (a : X) e, irng1 a e = (a e).bindA fun x _ m => i1S m x := by intros; rfl
theorem ev241 : ∀ (m : Mem) l h, i2S m (.int l) (.int h) = if (-lim ≤ l ∧ l < lim) ∧ -lim ≤ h ∧ h < lim then .ok ((rng l h).map D.int) false m else .bad := by intros; rfl
theorem ev242 : ∀ (a b : X) e, irng2 a b e = (a e).bindA fun x _ m => (b (e.wm m)).bindA fun y _ m => i2S m x y := by intros; rfl
theorem ev243 : ∀ e, setMany ([]) ([]) (e) = some e := by intros; rfl
theorem ev244 : ∀ i is d ds e, setMany (i :: is) (d :: ds) (e) = setMany is ds (e.set i (.cold d)) := by intros; rfl
theorem ev245 : ∀ i d e, Pat.put (.nm i) (d) (e) = some (e.set i (.cold d)) := by intros; rfl
theorem ev246 : ∀ is ds e, Pat.put (.tp is) (.tup ds) (e) = setMany is ds e := by intros; rfl
theorem ev247 : ∀ y c m, l3S (.ok y c m) = if dirty c y = true then none else some (some y, m) := by intros; rfl
theorem ev248 : ∀ (x : X) (e : Env) b m, l2S x e (.ok b m) = if b = true then l3S (x (e.wm m)) else some (none, m) := by intros; rfl
theorem ev249 : ∀ (t : XB) (x : X), l1S t x (none) = none := by intros; rfl
theorem ev250 : ∀ (t : XB) (x : X) e1, l1S t x (some e1) = l2S x e1 (t e1) := by intros; rfl
theorem ev251 : ∀ (p : Pat) (t : XB) (x : X) (e : Env) (d : D), lcTurn p t x e d = l1S t x (p.put d e) := by intros; rfl
theorem ev252 : ∀ ys m, lcT (some (ys, m)) = .ok (.lst ys) .fresh m := by intros; rfl
theorem ev253 : lcT (none) = .bad := by intros; rfl
theorem ev254 : ∀ (own : List Nat) (p : Pat) (t : XB) (x : X) (e : Env) ds m w1, lcS own p t x e (.ok ds w1 m) = lcT (lcLoop p t x (wipeE e own) ds m []) := by intros; rfl
theorem ev255 : ∀ (own : List Nat) (it : XI) (p : Pat) (t : XB) (x : X) e, lc own it p t x e = lcS own p t x e (it e) := by intros; rfl
theorem ev256 : ∀ e, snop e = .nx e := by intros; rfl
theorem ev257 : ∀ (e : Env), sbad e = .bad := by intros; rfl
theorem ev258 : ∀ (a b : XS) e, seq a b e = (a e).bind b := by intros; rfl
theorem ev259 : ∀ (i : Nat) (a : X) e, sset i a e = (a e).bindS e fun d c m => if dirty c d = true then .bad else .nx ((e.wm m).set i (.cold d)) := by intros; rfl
theorem ev260 : ∀ (i : Nat) (e : Env) (d : D), shS i e d (.fresh) = .nx (e.set i (.hot d)) := by intros; rfl
theorem ev261 : ∀ (i : Nat) (a : X) e, shot i a e = (a e).bindS e fun d c m => shS i (e.wm m) d c := by intros; rfl
theorem ev262 : ∀ (i : Nat) (e : Env) d, sfS i e (some (.hot d)) = .nx (e.set i (.cold d)) := by intros; rfl
theorem ev263 : ∀ (i : Nat) e, sfreeze i e = sfS i e (e.get i) := by intros; rfl
theorem ev264 : ∀ (i n : Nat) (e : Env) d, skT i n e (some d) = .nx ((e.wm (e.mem.set n none)).set i (.cold d)) := by intros; rfl
theorem ev265 : ∀ (i : Nat) (e : Env) n, skS i e (some (.cold (.ptr n))) = skT i n e (at_ e.mem n) := by intros; rfl
theorem ev266 : ∀ (i : Nat) e, skill i e = skS i e (e.get i) := by intros; rfl
theorem ev267 : ∀ e1, suT (some e1) = .nx e1 := by intros; rfl
theorem ev268 : suT (none) = .bad := by intros; rfl
theorem ev269 : ∀ (is : List Nat) (a : X) e, sunp is a e = (a e).bindS e fun d c m => if dirty c d = true then .bad else suT (Pat.put (.tp is) d (e.wm m)) := by intros; rfl
theorem ev270 : ∀ (i j : Nat) (a b : X) e, spar i j a b e = (a e).bindS e fun x c m => (b (e.wm m)).bindS e fun y c' m => if (dirty c x || dirty c' y) = true then .bad else .nx (((e.wm m).set i (.cold x)).set j (.cold y)) := by intros; rfl
theorem ev271 : ∀ (i : Nat) (e : Env) z, saT i e (some z) = .nx (e.set i (.cold z)) := by intros; rfl
theorem ev272 : ∀ (i : Nat) (e : Env), saT i e (none) = .bad := by intros; rfl
theorem ev273 : ∀ (i : Nat) (f : D → D → Option D) (a : X) (e : Env) x, saS i f a e (some (.cold x)) = (a e).bindS e fun y _ m => saT i (e.wm m) (f x y) := by intros; rfl
theorem ev274 : ∀ (i : Nat) (f : D → D → Option D) (a : X) e, saug i f a e = saS i f a e (e.get i) := by intros; rfl
theorem ev275 : ∀ (a : X) e, sexpr a e = (a e).bindS e fun _ _ m => .nx (e.wm m) := by intros; rfl
theorem ev276 : ∀ (i : Nat) (e : Env) (ds : List D) (d : D), spT i e ds d = if ds.length < most then .nx (e.set i (.hot (.lst (ds ++ [d])))) else .bad := by intros; rfl
theorem ev277 : ∀ (i : Nat) (a : X) (e : Env) ds, spS i a e (some (.hot (.lst ds))) = (a e).bindS e fun d c m => if dirty c d = true then .bad else spT i (e.wm m) ds d := by intros; rfl
theorem ev278 : ∀ (i : Nat) (a : X) e, sapp i a e = spS i a e (e.get i) := by intros; rfl
theorem ev279 : ∀ (i : Nat) (e : Env) (ds : List D) ys, sxT i e ds (.fresh) (.lst ys) = if ds.length + ys.length ≤ most then .nx (e.set i (.hot (.lst (ds ++ ys)))) else .bad := by intros; rfl
theorem ev280 : ∀ (i : Nat) (e : Env) (ds : List D) ys, sxT i e ds (.cold) (.lst ys) = if ds.length + ys.length ≤ most then .nx (e.set i (.hot (.lst (ds ++ ys)))) else .bad := by intros; rfl
theorem ev281 : ∀ (i : Nat) (a : X) (e : Env) ds, sxS i a e (some (.hot (.lst ds))) = (a e).bindS e fun d c m => sxT i (e.wm m) ds c d := by intros; rfl
theorem ev282 : ∀ (i : Nat) (a : X) e, sext i a e = sxS i a e (e.get i) := by intros; rfl
theorem ev283 : ∀ (i : Nat) (e : Env) w1, scS i e (some (.hot (.lst w1))) = .nx (e.set i (.hot (.lst []))) := by intros; rfl
theorem ev284 : ∀ (i : Nat) e, sclear i e = scS i e (e.get i) := by intros; rfl
theorem ev285 : ∀ (i : Nat) (e : Env) z, stV i e (some z) = .nx (e.set i (.hot z)) := by intros; rfl
theorem ev286 : ∀ (i : Nat) (e : Env), stV i e (none) = .bad := by intros; rfl
theorem ev287 : ∀ (d : D) ds z, lput d (.lst ds) (.int z) = (ixN ds.length z).map fun j => .lst (ds.set j d) := by intros; rfl
theorem ev288 : ∀ (i : Nat) (k a : X) (e : Env) x, stS i k a e (some (.hot x)) = (a e).bindS e fun d c m => if dirty c d = true then .bad else (k (e.wm m)).bindS e fun y _ m => stV i (e.wm m) (lput d x y) := by intros; rfl
theorem ev289 : ∀ (i : Nat) (k a : X) e, sput i k a e = stS i k a e (e.get i) := by intros; rfl
theorem ev290 : ∀ (i : Nat) (k a : X) (e : Env) x, sdS i k a e (some (.hot x)) = (a e).bindS e fun d c m => if dirty c d = true then .bad else (k (e.wm m)).bindS e fun y ck m => if dirty ck y = true then .bad else stV i (e.wm m) (dput d x y) := by intros; rfl
theorem ev291 : ∀ (i : Nat) (k a : X) e, sdput i k a e = sdS i k a e (e.get i) := by intros; rfl
theorem ev292 : ∀ (k : Nat) (ds : List D) (d : D), putF k ds d = if k < ds.length then some (ds.set k d) else if k = ds.length then some (ds ++ [d]) else none := by intros; rfl
theorem ev293 : ∀ (n i : Nat) (e : Env) es, slT n i e (some es) = .nx (e.set i (.slf n es)) := by intros; rfl
theorem ev294 : ∀ (n i : Nat) (e : Env), slT n i e (none) = .bad := by intros; rfl
theorem ev295 : ∀ (n i : Nat) (e : Env) es, slU n i e (some es) = .nx (e.set i (.hot (.obj n es))) := by intros; rfl
theorem ev296 : ∀ (n i : Nat) (e : Env), slU n i e (none) = .bad := by intros; rfl
theorem ev297 : ∀ (n i k : Nat) (a : X) (e : Env) m ds, slV n i k a e (some (.slf m ds)) = if m = n then (a e).bindS e fun d c μ => (if dirty c d = true then .bad else slT n i (e.wm μ) (putF k ds d)) else .bad := by intros; rfl
theorem ev298 : ∀ (n i k : Nat) (a : X) (e : Env) m ds, slV n i k a e (some (.hot (.obj m ds))) = if m = n then (a e).bindS e fun d c μ => (if dirty c d = true then .bad else slU n i (e.wm μ) (putF k ds d)) else .bad := by intros; rfl
theorem ev299 : ∀ (n i k : Nat) (a : X) e, sfld n i k a e = slV n i k a e (e.get i) := by intros; rfl
theorem ev300 : ∀ (n : Nat) (m : Mem) (e : Env) d, setM n m e (some d) = .nx (e.wm (m.set n (some d))) := by intros; rfl
theorem ev301 : ∀ (n : Nat) (m : Mem) (e : Env), setM n m e (none) = .bad := by intros; rfl
theorem ev302 : ∀ (f : D → Option D) (e : Env) (m : Mem) n, ptT f e m (.ptr n) = setM n m e ((at_ m n).bind f) := by intros; rfl
theorem ev303 : ∀ (x : D) ds, fapp x (.lst ds) = if ds.length < most then some (.lst (ds ++ [x])) else none := by intros; rfl
theorem ev304 : ∀ w1, isLO (some (.lst w1)) = true := by intros; rfl
theorem ev305 : ∀ (m : Mem) n, lsM m (.ptr n) = isLO (at_ m n) := by intros; rfl
theorem ev306 : ∀ (o a : X) e, sappP o a e = (o e).bindS e fun p _ m => if lsM m p = true then (a (e.wm m)).bindS e fun d c m => if dirty c d = true then .bad else ptT (fapp d) e m p else .bad := by intros; rfl
theorem ev307 : ∀ (o k a : X) e, sputP o k a e = (a e).bindS e fun d c m => if dirty c d = true then .bad else (o (e.wm m)).bindS e fun p _ m => (k (e.wm m)).bindS e fun y _ m => ptT (fun x => lput d x y) e m p := by intros; rfl
theorem ev308 : ∀ (o k a : X) e, sdputP o k a e = (a e).bindS e fun d c m => if dirty c d = true then .bad else (o (e.wm m)).bindS e fun p _ m => (k (e.wm m)).bindS e fun y ck m => if dirty ck y = true then .bad else ptT (fun x => dput d x y) e m p := by intros; rfl
theorem ev309 : ∀ (n k : Nat) (d : D) q ds, fputF n k d (.obj q ds) = if q = n then (putF k ds d).map (D.obj n) else none := by intros; rfl
theorem ev310 : ∀ (n k : Nat) (o a : X) e, sfldP n k o a e = (a e).bindS e fun d c m => if dirty c d = true then .bad else (o (e.wm m)).bindS e fun p _ m => ptT (fputF n k d) e m p := by intros; rfl
theorem ev311 : ∀ w1, fclr (.lst w1) = some (.lst []) := by intros; rfl
theorem ev312 : ∀ (o : X) e, sclearP o e = (o e).bindS e fun p _ m => ptT fclr e m p := by intros; rfl
theorem ev313 : ∀ (k : Nat) e, sraise k e = .exc k [] e := by intros; rfl
theorem ev314 : ∀ (k n : Nat) (dl : List D) (a : XA) e, sraiseF k n dl a e = (a e).bindS e fun ds t m => if t = true then .bad else if ds.length = n then .exc k (ds ++ dl) (e.wm m) else .bad := by intros; rfl
theorem ev315 : ∀ w1 w2, offS (.exn w1 w2) = .no := by intros; rfl
theorem ev316 : ∀ (i : Nat) e, sufC i (.nx e) = .nx ((offE e).set i .no) := by intros; rfl
theorem ev317 : ∀ (i : Nat) e, sufC i (.bk e) = .bk ((offE e).set i .no) := by intros; rfl
theorem ev318 : ∀ (i : Nat) e, sufC i (.ct e) = .ct ((offE e).set i .no) := by intros; rfl
theorem ev319 : ∀ (i : Nat) d c e, sufC i (.rt d c e) = .rt d c ((offE e).set i .no) := by intros; rfl
theorem ev320 : ∀ (i : Nat) w1 w2 w3, sufC i (.exc w1 w2 w3) = .bad := by intros; rfl
theorem ev321 : ∀ (i : Nat), sufC i (.bad) = .bad := by intros; rfl
theorem ev322 : ∀ (i : Nat) (h : XS) (k : Nat) (fs : List D) (e1 : Env), trX i h k fs e1 (some true) = sufC i (h ((offE e1).set i (.exn k fs))) := by intros; rfl
theorem ev323 : ∀ (i : Nat) (h : XS) (k : Nat) (fs : List D) (e1 : Env), trX i h k fs e1 (some false) = .exc k fs e1 := by intros; rfl
theorem ev324 : ∀ (i : Nat) (h : XS) (k : Nat) (fs : List D) (e1 : Env), trX i h k fs e1 (none) = .bad := by intros; rfl
theorem ev325 : ∀ (i : Nat) (m : Nat → Option Bool) (h : XS) k fs e1, trS i m h (.exc k fs e1) = trX i h k fs e1 (m k) := by intros; rfl
theorem ev326 : ∀ (i : Nat) (m : Nat → Option Bool) (b h : XS) e, stryX i m b h e = trS i m h (b e) := by intros; rfl
theorem ev327 : ∀ (m : Mem) d, exG m (some d) = .ok d .cold m := by intros; rfl
theorem ev328 : ∀ (m : Mem), exG m (none) = .bad := by intros; rfl
theorem ev329 : ∀ (n j : Nat) (m : Mem) k fs, exF n j m (some (.exn k fs)) = if k = n then exG m (fs[j]?) else .bad := by intros; rfl
theorem ev330 : ∀ (n i j : Nat) e, exf n i j e = exF n j e.mem (e.get i) := by intros; rfl
theorem ev331 : ∀ (n : Nat) (r : Bool) (m : Mem) k w1, exI n r m (some (.exn k w1)) = if k = n then .ok (.bl r) .cold m else .bad := by intros; rfl
theorem ev332 : ∀ (n i : Nat) (r : Bool) e, exis n i r e = exI n r e.mem (e.get i) := by intros; rfl
theorem ev333 : ∀ w1 w2 w3, tnS (.exc w1 w2 w3) = .bad := by intros; rfl
theorem ev334 : ∀ (b : XS) e, stryN b e = tnS (b e) := by intros; rfl
theorem ev335 : ∀ (t : XB) (a b : XS) e, sif t a b e = (t e).bindS e fun k m => if k = true then a (e.wm m) else b (e.wm m) := by intros; rfl
theorem ev336 : ∀ (a : X) e, sret a e = (a e).bindS e fun d c m => .rt d c (e.wm m) := by intros; rfl
theorem ev337 : ∀ e, sretN e = .rt .non .cold e := by intros; rfl
theorem ev338 : ∀ e, sbrk e = .bk e := by intros; rfl
theorem ev339 : ∀ e, scnt e = .ct e := by intros; rfl
theorem ev340 : ∀ (f : Env → Ctl) e, fT f (.nx e) = f e := by intros; rfl
theorem ev341 : ∀ (f : Env → Ctl) e, fT f (.ct e) = f e := by intros; rfl
theorem ev342 : ∀ (f : Env → Ctl) e, fT f (.bk e) = .nx e := by intros; rfl
theorem ev343 : ∀ (f : Env → Ctl), fO f (none) = .bad := by intros; rfl
theorem ev344 : ∀ (f : Env → Ctl) e, fO f (some e) = f e := by intros; rfl
theorem ev345 : ∀ (p : Pat) (b : XS) (e : Env) ds m w1, foS p b e (.ok ds w1 m) = forL p b ds (e.wm m) := by intros; rfl
theorem ev346 : ∀ (p : Pat) (b : XS) (e : Env) k fs m, foS p b e (.exc k fs m) = .bad := by intros; rfl
theorem ev347 : ∀ (p : Pat) (b : XS) (e : Env), foS p b e (.bad) = .bad := by intros; rfl
theorem ev348 : ∀ (it : XI) (p : Pat) (b : XS) e, sfor it p b e = foS p b e (it e) := by intros; rfl
theorem ev349 : outC (.hot) = .fresh := by intros; rfl
theorem ev350 : outC (.fresh) = .fresh := by intros; rfl
theorem ev351 : ∀ (m : Mem) a b c, lr3S m (.int a) (.int b) (.int c) = if (-4000000000 < a ∧ a < 4000000000) ∧ (-4000000000 < b ∧ b < 4000000000) ∧ (0 < c ∧ c < 1000000) ∧ b - a ≤ 1000000 then .ok (.lst ((rng3 a b c).map D.int)) .fresh m else .bad := by intros; rfl
theorem ev352 : ∀ (a b c : X) e, listRng3 a b c e = (a e).bind fun x _ m => (b (e.wm m)).bind fun y _ m => (c (e.wm m)).bind fun z _ m => lr3S m x y z := by intros; rfl
theorem ev353 : ∀ (n : Nat) (m : Mem) d, trO n m (some d) = if D.low n d = true then .ok d .cold (m.take n) else .bad := by intros; rfl
theorem ev354 : ∀ (n : Nat) (m : Mem), trO n m (none) = .bad := by intros; rfl
theorem ev355 : ∀ (n : Nat) (c : Cl) (m : Mem) k, trV n c m (.ptr k) = if n ≤ k then trO n m (at_ m k) else .ok (.ptr k) .cold (m.take n) := by intros; rfl
theorem ev356 : ∀ (p : Pat) (b : XS) (e : Env) ds m w1, foR p b e (.ok ds w1 m) = forL p b ds (e.wm m) := by intros; rfl
theorem ev357 : ∀ (m : Mem) (c : Cl) ds, iaS m c (.tup ds) = (if c = .cold then .ok ds false m else .bad) := by intros; rfl
theorem ev358 : ∀ (p : Pat) (b : XS) (e : Env) d c m, fxS p b e (.ok d c m) = fxV p b e c m d := by intros; rfl
theorem ev359 : ∀ (a : X) (p : Pat) (b : XS) e, sforx a p b e = fxS p b e (a e) := by intros; rfl
theorem ev360 : ∀ (c : Cl) (m : Mem) xs k, rtS c m (.tup xs) (.int k) = if 1 ≤ k ∧ k ≤ 1000 ∧ xs.isEmpty = false ∧ xs.length ≤ 1000 then .ok (.tup (repD xs k)) (part c (.tup (repD xs k))) m else .bad := by intros; rfl
theorem ev361 : ∀ (a b : X) e, rept a b e = (a e).bind fun x c m => (b (e.wm m)).bind fun y _ m => rd m x c fun x c => rtS c m x y := by intros; rfl
theorem ev362 : ∀ (k : List Int), tupK k = .tup (k.map .int) := by intros; rfl
theorem ev363 : ∀ (n : Nat) (x0 : D) ys m, lcdT n x0 (some (ys, m)) = .ok (.lst ys) .fresh (m.set n (some x0)) := by intros; rfl
theorem ev364 : ∀ (n : Nat) (x0 : D), lcdT n x0 (none) = .bad := by intros; rfl
theorem ev365 : ∀ (own : List Nat) (is : List Nat) (t : XB) (x : X) (e : Env) (n : Nat) (kvs : List (List Int × D)) k m1 w1, lcdU own is t x e n kvs (.ok (.ptr k) w1 m1) = if k = n then lcdT n (.dtk kvs) (lcLoop (.tp is) t x (wipeE e own) (kvs.map fun kv => tupK kv.1) m1 []) else .bad := by intros; rfl
theorem ev366 : ∀ (own : List Nat) (a : X) (is : List Nat) (t : XB) (x : X) (e : Env) (n : Nat) kvs, lcdS own a is t x e n (some (.dtk kvs)) = lcdU own is t x e n kvs (a (e.wm (e.mem.set n none))) := by intros; rfl
theorem ev367 : ∀ (own : List Nat) (a : X) (is : List Nat) (t : XB) (x : X) (e : Env) n w1 w2, lcdR own a is t x e (.ok (.ptr n) w1 w2) = lcdS own a is t x e n (at_ e.mem n) := by intros; rfl
theorem ev368 : ∀ (own : List Nat) (a : X) (is : List Nat) (t : XB) (x : X) e, lcd own a is t x e = lcdR own a is t x e (a e) := by intros; rfl
theorem ev369 : ∀ (n : Nat) (m : Mem) k, resO n m (.ptr k) = if n < k then (at_ m k).bind (fun d => if D.low n d = true then some d else none) else if k < n then some (.ptr k) else none := by intros; rfl
theorem ev370 : ∀ (n : Nat) (m : Mem), resL n m ([]) = some [] := by intros; rfl
theorem ev371 : ∀ (n : Nat) (m : Mem) d r, resL n m (d :: r) = (resO n m d).bind fun x => (resL n m r).map (x :: ·) := by intros; rfl
theorem ev372 : ∀ (c n : Nat) (m : Mem) es, resJ c n m (some es) = .ok (.obj c es) .fresh (m.take n) := by intros; rfl
theorem ev373 : ∀ (c n : Nat) (m : Mem), resJ c n m (none) = .bad := by intros; rfl
theorem ev374 : ∀ (c n : Nat) (m : Mem) k fs, resI c n m (some (.obj k fs)) = if k = c then resJ c n m (resL n m fs) else .bad := by intros; rfl
theorem ev375 : ∀ (m : Mem) kvs, sdD m (.dik kvs) = if kvs.length ≤ most then .ok (.lst ((sortI (kvs.map (·.1))).map D.int)) .fresh m else .bad := by intros; rfl
theorem ev376 : ∀ (a : X) e, sortedD a e = (a e).bind fun x c m => rd m x c fun x _ => sdD m x := by intros; rfl
theorem ev377 : ∀ (n : Nat) (r : Bool) (m : Mem) k w1, isoS n r m (.obj k w1) = if k = n then .ok (.bl r) .cold m else .bad := by intros; rfl
theorem ev378 : ∀ (n : Nat) (r : Bool) (a : X) e, iso n r a e = (a e).bind fun d c m => rd m d c fun d _ => isoS n r m d := by intros; rfl
theorem ev379 : ∀ (m : Mem) n, deep1 m (.ptr n) = at_ m n := by intros; rfl
theorem ev380 : ∀ (m : Mem), deepL m ([]) = some [] := by intros; rfl
theorem ev381 : ∀ (m : Mem) d r, deepL m (d :: r) = (deep1 m d).bind fun x => (deepL m r).map (x :: ·) := by intros; rfl
theorem ev382 : ∀ (m : Mem) xs, deepD m (.lst xs) = (deepL m xs).map D.lst := by intros; rfl
theorem ev383 : ∀ (m : Mem) xs, deepD m (.tup xs) = (deepL m xs).map D.tup := by intros; rfl
theorem ev384 : ∀ (m : Mem) (f : D → D → Option D) (x : D) y, dpT m f x (some y) = ofO m (f x y) := by intros; rfl
theorem ev385 : ∀ (m : Mem) (f : D → D → Option D) (x : D), dpT m f x (none) = .bad := by intros; rfl
theorem ev386 : ∀ (m : Mem) (f : D → D → Option D) (y : D) x, dpS m f y (some x) = dpT m f x (deepD m y) := by intros; rfl
theorem ev387 : ∀ (m : Mem) (f : D → D → Option D) (y : D), dpS m f y (none) = .bad := by intros; rfl
theorem ev388 : ∀ (f : D → D → Option D) (a b : X) e, op2M f a b e = (a e).bind fun x c m => (b (e.wm m)).bind fun y c' m => rd m x c fun x _ => rd m y c' fun y _ => dpS m f y (deepD m x) := by intros; rfl
theorem ev389 : ∀ (m : Mem) kvs, ldS m (.dtk kvs) = if kvs.length ≤ most then .ok (.lst (kvs.map fun kv => tupK kv.1)) .fresh m else .bad := by intros; rfl
theorem ev390 : ∀ (m : Mem) kvs, ldS m (.dik kvs) = if kvs.length ≤ most then .ok (.lst (kvs.map fun kv => .int kv.1)) .fresh m else .bad := by intros; rfl
theorem ev391 : ∀ (a : X) e, listD a e = (a e).bind fun x c m => rd m x c fun x _ => ldS m x := by intros; rfl
theorem ev392 : ∀ w1, isLs (.lst w1) = true := by intros; rfl
theorem ev393 : ∀ (o a : X) e, lindex o a e = (o e).bind fun x _ m => if isLs x = true then (a (e.wm m)).bind fun y c m => rd m y c fun y _ => ofO m (fIndex y x) else .bad := by intros; rfl
theorem ev394 : ∀ (a : X) e, lenSet a e = (a e).bind fun x c m => rd m x c fun x _ => ofO m (fLenSet x) := by intros; rfl
theorem ev395 : ∀ (c : Cl) (m : Mem) k ks, mnS c m (some (k :: ks)) = .ok (.tup ((minL k ks).map .int)) (part c (.tup ((minL k ks).map .int))) m := by intros; rfl
theorem ev396 : ∀ (c : Cl) (m : Mem) ds, mnT c m (.lst ds) = if ds.length ≤ most then mnS c m (tupsD ds) else .bad := by intros; rfl
theorem ev397 : ∀ (a : X) e, minTx a e = (a e).bind fun x c m => rd m x c fun x c => mnT c m x := by intros; rfl
theorem ev398 : ∀ (c : Cl) (m : Mem) xs, rvS c m (.lst xs) = .ok (.lst xs.reverse) (again c xs.reverse) m := by intros; rfl
theorem ev399 : ∀ (a : X) e, revx a e = (a e).bind fun x c m => rd m x c fun x c => rvS c m x := by intros; rfl
theorem ev400 : ∀ (i : Nat) (e : Env) (ds : List D) j, rmT i e ds (some (.int j)) = .nx (e.set i (.hot (.lst (ds.eraseIdx j.toNat)))) := by intros; rfl
theorem ev401 : ∀ (i : Nat) (a : X) (e : Env) ds, rmS i a e (some (.hot (.lst ds))) = (a e).bindS e fun d c m => rmT i (e.wm m) ds (fIndex d (.lst ds)) := by intros; rfl
theorem ev402 : ∀ (i : Nat) (a : X) e, srem i a e = rmS i a e (e.get i) := by intros; rfl
theorem ev403 : ∀ (i : Nat) (e : Env) (ds : List D) (d : D) n, inT i e ds d (.int n) = if (0 ≤ n ∧ n < 4000000000) ∧ ds.length < most then .nx (e.set i (.hot (.lst (ds.take n.toNat ++ [d] ++ ds.drop n.toNat)))) else .bad := by intros; rfl
theorem ev404 : ∀ (i : Nat) (k a : X) (e : Env) ds, inS i k a e (some (.hot (.lst ds))) = (k e).bindS e fun y _ m => (a (e.wm m)).bindS e fun d c m => if dirty c d = true then .bad else inT i (e.wm m) ds d y := by intros; rfl
theorem ev405 : ∀ (i : Nat) (k a : X) e, sins i k a e = inS i k a e (e.get i) := by intros; rfl
theorem ev406 : ∀ (m : Mem) ds, ihS m (some (.hot (.lst ds))) = .ok ds false m := by intros; rfl
theorem ev407 : ∀ (i : Nat) e, ihot i e = ihS e.mem (e.get i) := by intros; rfl
theorem ev408 : ∀ (i : Nat) (h : XS) (k : Nat) (fs : List D) (e1 : Env) (rest : Ctl), tyB i h k fs e1 rest (some true) = sufC i (h ((offE e1).set i (.exn k fs))) := by intros; rfl
theorem ev409 : ∀ (i : Nat) (h : XS) (k : Nat) (fs : List D) (e1 : Env) (rest : Ctl), tyB i h k fs e1 rest (some false) = rest := by intros; rfl
theorem ev410 : ∀ (i : Nat) (h : XS) (k : Nat) (fs : List D) (e1 : Env) (rest : Ctl), tyB i h k fs e1 rest (none) = .bad := by intros; rfl
theorem ev411 : ∀ (i : Nat) k fs e1, tyX i ([]) (k) (fs) (e1) = .exc k fs e1 := by intros; rfl
theorem ev412 : ∀ (i : Nat) m h r k fs e1, tyX i ((m, h) :: r) (k) (fs) (e1) = tyB i h k fs e1 (tyX i r k fs e1) (m k) := by intros; rfl
theorem ev413 : ∀ (m : Mem) ds, irS m (.cold) (.lst ds) = .ok ds.reverse false m := by intros; rfl
theorem ev414 : ∀ (m : Mem) ds, irS m (.fresh) (.lst ds) = .ok ds.reverse false m := by intros; rfl
theorem ev415 : ∀ (a : X) e, irev a e = (a e).bindA fun x c m => irS m c x := by intros; rfl
theorem ev416 : ∀ (m : Mem) ns, ssT m (some ns) = if ns.length < 63 then .ok (.lst ((sortI (uniqI ns)).map D.int)) .fresh m else .bad := by intros; rfl
theorem ev417 : ∀ (m : Mem), ssT m (none) = .bad := by intros; rfl
theorem ev418 : ∀ (m : Mem) ds, ssS m (.lst ds) = ssT m (intsD ds) := by intros; rfl
theorem ev419 : ∀ (a : X) e, sortSet a e = (a e).bind fun x c m => rd m x c fun x _ => ssS m x := by intros; rfl
theorem ev420 : ∀ (m : Mem) ds, ieS m (.cold) (.lst ds) = .ok (enumD ds) false m := by intros; rfl
theorem ev421 : ∀ (m : Mem) ds, ieS m (.fresh) (.lst ds) = .ok (enumD ds) false m := by intros; rfl
theorem ev422 : ∀ (a : X) e, ienum a e = (a e).bindA fun x c m => ieS m c x := by intros; rfl
theorem ev423 : ∀ (m : Mem) (xs : List D) ys, izT m xs (.cold) (.lst ys) = .ok (zipD xs ys) false m := by intros; rfl
theorem ev424 : ∀ (m : Mem) (xs : List D) ys, izT m xs (.fresh) (.lst ys) = .ok (zipD xs ys) false m := by intros; rfl
theorem ev425 : ∀ (m : Mem) (c' : Cl) (y : D) xs, izS m c' y (.cold) (.lst xs) = izT m xs c' y := by intros; rfl
theorem ev426 : ∀ (m : Mem) (c' : Cl) (y : D) xs, izS m c' y (.fresh) (.lst xs) = izT m xs c' y := by intros; rfl
theorem ev427 : ∀ (a b : X) e, izip a b e = (a e).bindA fun x c m => (b (e.wm m)).bindA fun y c' m => izS m c' y c x := by intros; rfl
theorem ev428 : ∀ i, fInt (.int i) = some (.int i) := by intros; rfl
theorem ev429 : ∀ b, fInt (.bl b) = some (.int (if b = true then 1 else 0)) := by intros; rfl
theorem ev430 : ∀ (n k q : Nat) (e : Env) (m : Mem) z, sgU n k q e m (some z) = ptT (fputF n k z) e m (.ptr q) := by intros; rfl
theorem ev431 : ∀ (n k q : Nat) (e : Env) (m : Mem), sgU n k q e m (none) = .bad := by intros; rfl
theorem ev432 : ∀ (n k q : Nat) (f : D → D → Option D) (a : X) (e : Env) (m : Mem) x, sgT n k q f a e m (some x) = (a (e.wm m)).bindS e fun y _ m => sgU n k q e m (f x y) := by intros; rfl
theorem ev433 : ∀ (n k q : Nat) (f : D → D → Option D) (a : X) (e : Env) (m : Mem), sgT n k q f a e m (none) = .bad := by intros; rfl
theorem ev434 : ∀ (n k : Nat) (f : D → D → Option D) (a : X) (e : Env) (m : Mem) q, sgS n k f a e m (.ptr q) = sgT n k q f a e m ((at_ m q).bind (fgetF n k)) := by intros; rfl
theorem ev435 : ∀ (n k : Nat) (f : D → D → Option D) (o a : X) e, saugP n k f o a e = (o e).bindS e fun p _ m => sgS n k f a e m p := by intros; rfl
theorem ev436 : ∀ i j, opMulB (.int i) (.int j) = if (wideI i && wideI j) = true then some (.int (i * j)) else none := by intros; rfl
theorem ev437 : ∀ (c : Cl) (m : Mem) (ds : List D) ks, sortT c m ds (some ks) = if ks.Nodup ∧ ds.length ≤ 1000 then .ok (.lst ((sortP (ks.zip ds)).map (·.2))) (again c ds) m else .bad := by intros; rfl
theorem ev438 : ∀ (c : Cl) (m : Mem) (ds : List D), sortT c m ds (none) = .bad := by intros; rfl
theorem ev439 : ∀ (g : F) (c : Cl) (m : Mem) ds, skD g c m (.lst ds) = sortT c m ds (keysL g m ds) := by intros; rfl
theorem ev440 : ∀ (g : F) (a : X) e, sortK g a e = (a e).bind fun x c m => rd m x c fun x c => skD g c m x := by intros; rfl
theorem ev441 : ∀ ks, lnI (some ks) = if ks.Nodup ∧ ks.length < 64 then some (.int (ks.length : Nat)) else none := by intros; rfl
theorem ev442 : lnI (none) = none := by intros; rfl
theorem ev443 : ∀ ds, fLenSetI (.lst ds) = lnI (intsD ds) := by intros; rfl
theorem ev444 : ∀ (a : X) e, lenSetI a e = (a e).bind fun x c m => rd m x c fun x _ => ofO m (fLenSetI x) := by intros; rfl
theorem ev445 : ∀ xs, opEqE (.lst xs) (.lst []) = some (.bl xs.isEmpty) := by intros; rfl
theorem ev446 : ∀ (c c' : Cl) (m : Mem) xs ys, ctA c c' m (.tup xs) (.tup ys) = if xs.length + ys.length ≤ most then (if xs = [] then .ok (.tup ys) (part c' (.tup ys)) m else if ys = [] then .ok (.tup xs) (part c (.tup xs)) m else .ok (.tup (xs ++ ys)) (if (c = .taint ∨ c' = .taint) then .taint else .cold) m) else .bad := by intros; rfl
theorem ev447 : ∀ (a b : X) e, catA a b e = (a e).bind fun x c m => (b (e.wm m)).bind fun y c' m => rd m x c fun x c => rd m y c' fun y c' => ctA c c' m x y := by intros; rfl
theorem ev448 : okN ([]) ([]) = true := by intros; rfl
theorem ev449 : ∀ xs ys w1 w2, okN (.int w1 :: xs) (.int w2 :: ys) = okN xs ys := by intros; rfl
theorem ev450 : ∀ a xs b ys, okN (.tup a :: xs) (.tup b :: ys) = if (intsD a).isSome = true then (if (intsD b).isSome = true then okN xs ys else false) else false := by intros; rfl
theorem ev451 : ∀ i xs j ys, lexN (.int i :: xs) (.int j :: ys) = if i = j then lexN xs ys else decide (i < j) := by intros; rfl
theorem ev452 : ∀ a xs b ys, lexN (.tup a :: xs) (.tup b :: ys) = if intsD a = intsD b then lexN xs ys else lexLt ((intsD a).getD []) ((intsD b).getD []) := by intros; rfl
theorem ev453 : ∀ xs ys, opLtN (.tup xs) (.tup ys) = if okN xs ys = true then some (.bl (lexN xs ys)) else none := by intros; rfl
theorem ev454 : ∀ (n : Nat) (m : Mem) (ds : List D) x, ppT n m ds (some x) = .ok x .cold (m.set n (some (.lst ds.dropLast))) := by intros; rfl
theorem ev455 : ∀ (n : Nat) (m : Mem) (ds : List D), ppT n m ds (none) = .bad := by intros; rfl
theorem ev456 : ∀ (n : Nat) (m : Mem) ds, ppL n m (some (.lst ds)) = ppT n m ds (ds[ds.length - 1]?) := by intros; rfl
theorem ev457 : ∀ (m : Mem) n, ppS m (.ptr n) = ppL n m (at_ m n) := by intros; rfl
theorem ev458 : ∀ (o : X) e, popP o e = (o e).bind fun p _ m => ppS m p := by intros; rfl
theorem ev459 : ∀ (i : Nat) (e : Env) (n : Nat) ds, sthT i e n (some (.lst ds)) = .nx ((e.wm (e.mem.set n none)).set i (.cold (.lst ds))) := by intros; rfl
theorem ev460 : ∀ (i : Nat) (e : Env) n, sthS i e (some (.cold (.ptr n))) = sthT i e n (at_ e.mem n) := by intros; rfl
theorem ev461 : ∀ (i : Nat) e, sthaw i e = sthS i e (e.get i) := by intros; rfl
theorem ev462 : ∀ (m : Mem) ds, sttS m (.tup ds) = soT m (intsD ds) := by intros; rfl
theorem ev463 : ∀ (a : X) e, sortedTI a e = (a e).bind fun x c m => rd m x c fun x _ => sttS m x := by intros; rfl
theorem ev464 : ∀ (c : Cl) (m : Mem) x ds, mnO c m (x :: ds) = if ((x :: ds).all fun a => (x :: ds).all fun b => tnOk a b) = true then .ok (minN x ds) (part c (minN x ds)) m else .bad := by intros; rfl
theorem ev465 : ∀ (c : Cl) (m : Mem), mnO c m ([]) = .bad := by intros; rfl
theorem ev466 : ∀ (c : Cl) (m : Mem) ds, mnU c m (.lst ds) = if ds.length ≤ most then mnO c m ds else .bad := by intros; rfl
theorem ev467 : ∀ (a : X) e, minTN a e = (a e).bind fun x c m => rd m x c fun x c => mnU c m x := by intros; rfl
theorem ev468 : ∀ (ds : List D) j, fremT ds (some (.int j)) = some (.lst (ds.eraseIdx j.toNat)) := by intros; rfl
theorem ev469 : ∀ (d : D) ds, frem d (.lst ds) = fremT ds (fIndex d (.lst ds)) := by intros; rfl
theorem ev470 : ∀ (o a : X) e, sremP o a e = (o e).bindS e fun p _ m => if lsM m p = true then (a (e.wm m)).bindS e fun d c m => ptT (frem d) e m p else .bad := by intros; rfl
theorem ev471 : ∀ (l : List S) (m : Mem) i, Env.get ⟨l, m⟩ i = l[i]? := by intros; rfl
theorem ev472 : ∀ (l : List S) (m : Mem) i s, Env.set ⟨l, m⟩ i s = ⟨l.set i s, m⟩ := by intros; rfl
theorem ev473 : ∀ (l : List S) (m m' : Mem), Env.wm ⟨l, m⟩ m' = ⟨l, m'⟩ := by intros; rfl
theorem ev474 : ∀ (l : List S) (m : Mem), Env.mem ⟨l, m⟩ = m := by intros; rfl
theorem ev475 : ∀ (f : Env → Ctl) d c e, Ctl.bind (.rt d c e) f = .rt d c e := by intros; rfl
theorem ev476 : ∀ (f : Env → Ctl) e, Ctl.bind (.bk e) f = .bk e := by intros; rfl
theorem ev477 : ∀ (f : Env → Ctl) e, Ctl.bind (.ct e) f = .ct e := by intros; rfl
theorem ev478 : ∀ (f : Env → Ctl) k fs e, Ctl.bind (.exc k fs e) f = .exc k fs e := by intros; rfl
theorem ev479 : ∀ (f : Env → Ctl), Ctl.bind .bad f = .bad := by intros; rfl
theorem ev480 : ∀ d, dirty .cold d = false := by intros; rfl
theorem ev481 : ∀ d, dirty .fresh d = false := by intros; rfl
theorem ev482 : ∀ d, part .cold d = .cold := by intros; rfl
theorem ev483 : ∀ d, part .fresh d = .cold := by intros; rfl
theorem ev484 : ∀ d, part .hot d = .cold := by intros; rfl
theorem ev485 : outB .cold = .cold := by intros; rfl
theorem ev486 : outB .hot = .cold := by intros; rfl
theorem ev487 : outB .taint = .cold := by intros; rfl
theorem ev488 : ∀ d, post d .cold = if d.scalar = true then .cold else .taint := by intros; rfl
theorem ev489 : ∀ d, post d .hot = if d.scalar = true then .cold else .taint := by intros; rfl
theorem ev490 : ∀ d, post d .taint = if d.scalar = true then .cold else .taint := by intros; rfl
theorem ev491 : ∀ k fs m, back (.exc k fs m) = .exc k fs m := by intros; rfl
theorem ev492 : back .bad = .bad := by intros; rfl
theorem ev493 : ∀ k fs m, freshR (.exc k fs m) = .exc k fs m := by intros; rfl
theorem ev494 : freshR .bad = .bad := by intros; rfl
theorem ev495 : ∀ r d c m, orxS r (.ok d c m) = .ok d c m := by intros; rfl
theorem ev496 : ∀ r k fs m, orxS r (.exc k fs m) = .exc k fs m := by intros; rfl
theorem ev497 : ∀ ds, again .cold ds = .fresh := by intros; rfl
theorem ev498 : ∀ ds, again .fresh ds = .fresh := by intros; rfl
theorem ev499 : ∀ ds, again .hot ds = .fresh := by intros; rfl
theorem ev500 : agC .taint .fresh = .taint := by intros; rfl
theorem ev501 : agC .fresh .taint = .taint := by intros; rfl
theorem ev502 : agC .taint .taint = .taint := by intros; rfl
theorem ev503 : ∀ {α : Type} (b : α) m n c (k : D → Cl → α), rdG b m (.ptr n) c k = rdS b k (at_ m n) := by intros; rfl
theorem ev504 : ∀ {α : Type} (b : α) m c (k : D → Cl → α), rdG b m .non c k = k .non c := by intros; rfl
theorem ev505 : ∀ {α : Type} (b : α) m c x (k : D → Cl → α), rdG b m (.bl x) c k = k (.bl x) c := by intros; rfl
theorem ev506 : ∀ {α : Type} (b : α) m c x (k : D → Cl → α), rdG b m (.int x) c k = k (.int x) c := by intros; rfl
theorem ev507 : ∀ {α : Type} (b : α) m c x (k : D → Cl → α), rdG b m (.str x) c k = k (.str x) c := by intros; rfl
theorem ev508 : ∀ {α : Type} (b : α) m c x (k : D → Cl → α), rdG b m (.tup x) c k = k (.tup x) c := by intros; rfl
theorem ev509 : ∀ {α : Type} (b : α) m c x (k : D → Cl → α), rdG b m (.lst x) c k = k (.lst x) c := by intros; rfl
theorem ev510 : ∀ {α : Type} (b : α) m c x (k : D → Cl → α), rdG b m (.frz x) c k = k (.frz x) c := by intros; rfl
theorem ev511 : ∀ {α : Type} (b : α) m c i x (k : D → Cl → α), rdG b m (.obj i x) c k = k (.obj i x) c := by intros; rfl
theorem ev512 : ∀ {α : Type} (b : α) m c x (k : D → Cl → α), rdG b m (.dik x) c k = k (.dik x) c := by intros; rfl
theorem ev513 : ∀ {α : Type} (b : α) m c x (k : D → Cl → α), rdG b m (.dtk x) c k = k (.dtk x) c := by intros; rfl
theorem ev514 : ∀ {α : Type} (b : α) (k : D → Cl → α) x, rdS b k (some x) = k x .hot := by intros; rfl
theorem ev515 : ∀ (m : Mem) (r : R) b, chS m r (some (.bl b)) = if b = true then r else .ok (.bl false) .cold m := by intro m r b; cases b <;> rfl
theorem ev516 : ∀ (m : Mem) (r : R) b, orS m r (some (.bl b)) = if b = true then .ok (.bl true) .cold m else r := by intro m r b; cases b <;> rfl
theorem ev517 : ∀ i m h e, trS i m h (.nx e) = .nx e := by intros; rfl
theorem ev518 : ∀ i cl b e, stryM i cl b e = trN i cl (b e) := by intros; rfl
theorem ev519 : ∀ i cl e, trN i cl (.nx e) = .nx e := by intros; rfl
theorem ev520 : ∀ i cl d c e, trN i cl (.rt d c e) = .rt d c e := by intros; rfl
theorem ev521 : ∀ i cl e, trN i cl (.bk e) = .bk e := by intros; rfl
theorem ev522 : ∀ i cl e, trN i cl (.ct e) = .ct e := by intros; rfl
theorem ev523 : ∀ i cl k fs e, trN i cl (.exc k fs e) = tyX i cl k fs e := by intros; rfl
theorem ev524 : ∀ i m h d c e, trS i m h (.rt d c e) = .rt d c e := by intros; rfl
theorem ev525 : ∀ i m h e, trS i m h (.bk e) = .bk e := by intros; rfl
theorem ev526 : ∀ i m h e, trS i m h (.ct e) = .ct e := by intros; rfl
theorem ev527 : ∀ i m h k fs e, trS i m h (.exc k fs e) = trX i h k fs e (m k) := by intros; rfl
theorem ev528 : ∀ e, tnS (.nx e) = .nx e := by intros; rfl
theorem ev529 : ∀ d c e, tnS (.rt d c e) = .rt d c e := by intros; rfl
theorem ev530 : ∀ e, tnS (.bk e) = .bk e := by intros; rfl
theorem ev531 : ∀ e, tnS (.ct e) = .ct e := by intros; rfl
theorem ev532 : offS .no = .no := by intros; rfl
theorem ev533 : ∀ d, offS (.cold d) = .cold d := by intros; rfl
theorem ev534 : ∀ d, offS (.hot d) = .hot d := by intros; rfl
theorem ev535 : ∀ c d, offS (.slf c d) = .slf c d := by intros; rfl
theorem ev536 : ∀ d, offS (.bor d) = .bor d := by intros; rfl
theorem ev537 : ∀ c d, offS (.exn c d) = .no := by intros; rfl
theorem ev538 : ∀ (l : List S) (m : Mem), offE ⟨l, m⟩ = ⟨l.map offS, m⟩ := by intros; rfl
theorem ev539 : ∀ (l : List S) (m : Mem) vs, wipeE ⟨l, m⟩ vs = ⟨wipeL l vs, m⟩ := by intros; rfl
theorem ev540 : ∀ l, wipeL l [] = l := by intros; rfl
theorem ev541 : ∀ l v vs, wipeL l (v :: vs) = (wipeL l vs).set v .no := by intros; rfl
theorem ev542 : outC .cold = .cold := by intros; rfl
theorem ev543 : outC .taint = .cold := by intros; rfl
theorem ev544 : ∀ (l : List S) (m : Mem), leave (.nx ⟨l, m⟩) = .ok .non .cold m := by intros; rfl
theorem ev545 : ∀ d c (l : List S) (m : Mem), leave (.rt d c ⟨l, m⟩) = .ok d (outC c) m := by intros; rfl
theorem ev546 : ∀ k fs (l : List S) (m : Mem), leave (.exc k fs ⟨l, m⟩) = .exc k fs m := by intros; rfl
theorem ev547 : ∀ c k fs (l : List S) (m : Mem), leaveI c (.nx ⟨.slf k fs :: l, m⟩) = if k = c then .ok (.obj c fs) .fresh m else .bad := by intros; rfl
theorem ev548 : ∀ c k fs (l : List S) (m : Mem), leaveI c (.exc k fs ⟨l, m⟩) = .exc k fs m := by intros; rfl
theorem ev549 : ∀ (n : Nat) (ds : List D), enter n ds = ds.map S.cold ++ List.replicate (n - ds.length) S.no := by intros; rfl
theorem ev550 : ∀ (n : Nat) (ds : List D), enterB n ds = ds.map S.bor ++ List.replicate (n - ds.length) S.no := by intros; rfl
theorem ev551 : ∀ (a : D) xs, atI (a :: xs) 0 = some a := by exact at0
theorem ev552 : ∀ (a b : D) xs, atI (a :: b :: xs) 1 = some b := by exact at1
theorem ev553 : ∀ (a b c : D) xs, atI (a :: b :: c :: xs) 2 = some c := by exact at2
theorem ev554 : ∀ (a b c d : D) xs, atI (a :: b :: c :: d :: xs) 3 = some d := by exact at3
theorem ev555 : ∀ (a b c d e : D) xs, atI (a :: b :: c :: d :: e :: xs) 4 = some e := by exact at4
theorem ev556 : ∀ (a b c d e f : D) xs, atI (a :: b :: c :: d :: e :: f :: xs) 5 = some f := by exact at5
theorem ev557 : ∀ (a b c d e f g : D) xs, atI (a :: b :: c :: d :: e :: f :: g :: xs) 6 = some g := by exact at6
theorem ev558 : ∀ (a b c d e f g h : D) xs, atI (a :: b :: c :: d :: e :: f :: g :: h :: xs) 7 = some h := by exact at7
theorem ev559 : ∀ (xs : List D) x, atI (xs ++ [x]) (-1) = some x := by exact fun _ _ => atI_last
theorem ev560 : ∀ ns, intsD (ns.map D.int) = some ns := by exact ints_map
theorem ev561 : ∀ ns, bools (ns.map D.bl) = some ns := by exact bools_map
theorem ev562 : ∀ (ds : List D), fSum (.lst ds) = (intsD ds).map fun ns => D.int ns.sum := by intros; rfl
theorem ev563 : ∀ (ns : List Int) (g : List Int → Int) n, fMxS g (some (n :: ns)) = some (.int (g (n :: ns))) := by intros; rfl
theorem ev564 : D.scalar .non = true := by intros; rfl
theorem ev565 : ∀ i, D.scalar (.int i) = true := by intros; rfl
theorem ev566 : ∀ i, D.scalar (.bl i) = true := by intros; rfl
theorem ev567 : ∀ i, D.scalar (.str i) = true := by intros; rfl
theorem ev568 : ∀ i, D.scalar (.tup i) = false := by intros; rfl
theorem ev569 : ∀ i, D.scalar (.lst i) = false := by intros; rfl
theorem ev570 : ∀ c i, D.scalar (.obj c i) = false := by intros; rfl
theorem ev571 : ∀ i, D.scalar (.frz i) = false := by intros; rfl
theorem ev572 : ∀ i, D.scalar (.dik i) = false := by intros; rfl
theorem ev573 : ∀ i, D.scalar (.dtk i) = false := by intros; rfl
theorem ev574 : ∀ i, D.scalar (.ptr i) = false := by intros; rfl
theorem ev575 : ∀ xs, D.flat (.lst xs) = xs.all D.scalar := by intros; rfl
theorem ev576 : ∀ xs, D.flat (.tup xs) = xs.all D.scalar := by intros; rfl
theorem ev577 : ∀ c xs, D.flat (.obj c xs) = false := by intros; rfl
theorem ev578 : D.noptr .non = true := by intros; rfl
theorem ev579 : ∀ i, D.noptr (.int i) = true := by intros; rfl
theorem ev580 : ∀ i, D.noptr (.bl i) = true := by intros; rfl
theorem ev581 : ∀ i, D.noptr (.str i) = true := by intros; rfl
theorem ev582 : ∀ i, D.noptr (.frz i) = true := by intros; rfl
theorem ev583 : ∀ xs, D.noptr (.tup xs) = D.noptrs xs := by intros; rfl
theorem ev584 : ∀ xs, D.noptr (.lst xs) = D.noptrs xs := by intros; rfl
theorem ev585 : ∀ c xs, D.noptr (.obj c xs) = D.noptrs xs := by intros; rfl
theorem ev586 : ∀ xs, D.noptr (.dik xs) = D.noptrI xs := by intros; rfl
theorem ev587 : ∀ xs, D.noptr (.dtk xs) = D.noptrT xs := by intros; rfl
theorem ev588 : D.noptrs [] = true := by intros; rfl
theorem ev589 : ∀ x xs, D.noptrs (x :: xs) = (D.noptr x && D.noptrs xs) := by intros; rfl
theorem ev590 : D.noptrI [] = true := by intros; rfl
theorem ev591 : D.noptrT [] = true := by intros; rfl
theorem ev592 : ∀ (x : D) m, at_ (some x :: m) 0 = some x := by intros; rfl
theorem ev593 : ∀ (x : Option D) y m, at_ (x :: some y :: m) 1 = some y := by intros; rfl
theorem ev594 : ∀ (x y : Option D) z m, at_ (x :: y :: some z :: m) 2 = some z := by intros; rfl
theorem ev595 : ∀ (x y z : Option D) w m, at_ (x :: y :: z :: some w :: m) 3 = some w := by intros; rfl
theorem ev596 : ∀ (m : Mem) x l, at_ (m ++ some x :: l) m.length = some x := by exact at_len
theorem ev597 : ∀ (m : Mem) n l, n < m.length → at_ (m ++ l) n = at_ m n := by exact fun m n l h => at_left h
theorem ev598 : most = 1000000 := by intros; rfl
theorem ev599 : big = 340282366920938463463374607431768211456 := by intros; rfl
theorem ev600 : lim = 4611686018427387904 := by intros; rfl
theorem ev601 : ∀ n, D.low n .non = true := by intros; rfl
theorem ev602 : ∀ n i, D.low n (.int i) = true := by intros; rfl
theorem ev603 : ∀ n i, D.low n (.bl i) = true := by intros; rfl
theorem ev604 : ∀ n i, D.low n (.str i) = true := by intros; rfl
theorem ev605 : ∀ n i, D.low n (.frz i) = true := by intros; rfl
theorem ev606 : ∀ n xs, D.low n (.tup xs) = D.lows n xs := by intros; rfl
theorem ev607 : ∀ n xs, D.low n (.lst xs) = D.lows n xs := by intros; rfl
theorem ev608 : ∀ n c xs, D.low n (.obj c xs) = D.lows n xs := by intros; rfl
theorem ev609 : ∀ n xs, D.low n (.dik xs) = D.lowI n xs := by intros; rfl
theorem ev610 : ∀ n xs, D.low n (.dtk xs) = D.lowT n xs := by intros; rfl
theorem ev611 : ∀ n k, D.low n (.ptr k) = decide (k < n) := by intros; rfl
theorem ev612 : ∀ n c (m : Mem), trV n c m (.non) = if D.low n (.non) = true then .ok (.non) c (m.take n) else .bad := by intros; rfl
theorem ev613 : ∀ n c (m : Mem) i, trV n c m (.int i) = if D.low n (.int i) = true then .ok (.int i) c (m.take n) else .bad := by intros; rfl
theorem ev614 : ∀ n c (m : Mem) i, trV n c m (.bl i) = if D.low n (.bl i) = true then .ok (.bl i) c (m.take n) else .bad := by intros; rfl
theorem ev615 : ∀ n c (m : Mem) i, trV n c m (.str i) = if D.low n (.str i) = true then .ok (.str i) c (m.take n) else .bad := by intros; rfl
theorem ev616 : ∀ n c (m : Mem) i, trV n c m (.frz i) = if D.low n (.frz i) = true then .ok (.frz i) c (m.take n) else .bad := by intros; rfl
theorem ev617 : ∀ n c (m : Mem) xs, trV n c m (.tup xs) = if D.low n (.tup xs) = true then .ok (.tup xs) c (m.take n) else .bad := by intros; rfl
theorem ev618 : ∀ n c (m : Mem) xs, trV n c m (.lst xs) = if D.low n (.lst xs) = true then .ok (.lst xs) c (m.take n) else .bad := by intros; rfl
theorem ev619 : ∀ n c (m : Mem) q xs, trV n c m (.obj q xs) = if D.low n (.obj q xs) = true then .ok (.obj q xs) c (m.take n) else .bad := by intros; rfl
theorem ev620 : ∀ n c (m : Mem) xs, trV n c m (.dik xs) = if D.low n (.dik xs) = true then .ok (.dik xs) c (m.take n) else .bad := by intros; rfl
theorem ev621 : ∀ n c (m : Mem) xs, trV n c m (.dtk xs) = if D.low n (.dtk xs) = true then .ok (.dtk xs) c (m.take n) else .bad := by intros; rfl
theorem ev622 : ∀ n, D.lows n [] = true := by intros; rfl
theorem ev623 : ∀ n x xs, D.lows n (x :: xs) = (D.low n x && D.lows n xs) := by intros; rfl
theorem ev624 : ∀ (g : F) ds m, trim g ds m = trimR m (g ds m) := by intros; rfl
theorem ev625 : ∀ (m : Mem) d c m', trimR m (.ok d c m') = trM m m' (trV m.length c m' d) := by intros; rfl
theorem ev626 : ∀ (m : Mem) k fs m', trimR m (.exc k fs m') = trM m m' (if D.lows m.length fs = true then .exc k fs (m'.take m.length) else .bad) := by intros; rfl
theorem ev627 : ∀ n c (m : Mem) k, trV n c m (.ptr k) = if n ≤ k then trO n m (at_ m k) else .ok (.ptr k) .cold (m.take n) := by intros; rfl
theorem ev628 : ∀ m r, trM m m r = r := by exact tr_same
theorem ev629 : ∀ m l r, trM m (m ++ l) r = r := by exact tr_app
theorem ev630 : ∀ m r, trM [] m r = r := by exact tr_nil
theorem ev631 : ∀ (m l : Mem), (m ++ l).take m.length = m := by exact fun m l => List.take_left
theorem ev632 : ∀ (m : Mem), m.take m.length = m := by exact fun m => List.take_length
theorem ev633 : ∀ (m : Mem), m.take 0 = [] := by intros; rfl
theorem ev634 : ∀ (m : Mem) x y l, at_ (m ++ x :: some y :: l) (m.length + 1) = some y := by intros; unfold at_; simp
theorem ev635 : ∀ (m : Mem) x y l, (m ++ x :: l).set m.length y = m ++ y :: l := by intros; simp [List.set_append]
theorem ev636 : ∀ (m : Mem) x z y l, (m ++ x :: z :: l).set (m.length + 1) y = m ++ x :: y :: l := by intros; simp [List.set_append]
theorem ev637 : ∀ (m : Mem) x y z l, at_ (m ++ x :: y :: some z :: l) (m.length + 2) = some z := by intros; unfold at_; simp
theorem ev638 : ∀ (m : Mem) x y z w l, at_ (m ++ x :: y :: z :: some w :: l) (m.length + 3) = some w := by intros; unfold at_; simp
theorem ev639 : ∀ (m : Mem) x y z w l, (m ++ x :: y :: z :: l).set (m.length + 2) w = m ++ x :: y :: w :: l := by intros; simp [List.set_append]
theorem ev640 : ∀ (m : Mem) x y z w v l, (m ++ x :: y :: z :: w :: l).set (m.length + 3) v = m ++ x :: y :: z :: v :: l := by intros; simp [List.set_append]
theorem ev641 : ∀ (m : Mem) x y z, (m ++ [x, y, z]).length = m.length + 3 := by intros; simp
theorem ev642 : ∀ (m : Mem) x y z w, (m ++ [x, y, z, w]).length = m.length + 4 := by intros; simp
theorem ev643 : ∀ c (g : F) ds m, initF c g ds m = initR c m (g (.ptr m.length :: ds) (m ++ [some (.obj c [])])) := by intros; rfl
theorem ev644 : ∀ c (m : Mem) cl m', initR c m (.ok .non cl m') = trM m m' (resI c m.length m' (at_ m' m.length)) := by intros; rfl
theorem ev645 : ∀ c (m : Mem) k fs m', initR c m (.exc k fs m') = trM m m' (if D.lows m.length fs = true ∧ (at_ m' m.length).isSome = true then .exc k fs (m'.take m.length) else .bad) := by intros; rfl
theorem ev646 : ∀ n (m : Mem) k, resO n m (.ptr k) = if n < k then (at_ m k).bind (fun d => if D.low n d = true then some d else none) else if k < n then some (.ptr k) else none := by intros; rfl
theorem ev647 : ∀ n (m : Mem), resO n m .non = some .non := by intros; rfl
theorem ev648 : ∀ n (m : Mem) i, resO n m (.int i) = some (.int i) := by intros; rfl
theorem ev649 : ∀ n (m : Mem) i, resO n m (.bl i) = some (.bl i) := by intros; rfl
theorem ev650 : ∀ n (m : Mem) i, resO n m (.str i) = some (.str i) := by intros; rfl
theorem ev651 : ∀ n (m : Mem) xs, resO n m (.tup xs) = if D.low n (.tup xs) = true then some (.tup xs) else none := by intros; rfl
theorem ev652 : ∀ n (m : Mem) xs, resO n m (.lst xs) = if D.low n (.lst xs) = true then some (.lst xs) else none := by intros; rfl
theorem ev653 : ∀ n (m : Mem) c xs, resO n m (.obj c xs) = if D.low n (.obj c xs) = true then some (.obj c xs) else none := by intros; rfl
theorem ev654 : ∀ (m : Mem) n, deep1 m (.ptr n) = at_ m n := by intros; rfl
theorem ev655 : ∀ (m : Mem) xs, deep1 m (.lst xs) = some (.lst xs) := by intros; rfl
theorem ev656 : ∀ (m : Mem) xs, deep1 m (.tup xs) = some (.tup xs) := by intros; rfl
theorem ev657 : ∀ (m : Mem) i, deep1 m (.int i) = some (.int i) := by intros; rfl
theorem ev658 : ∀ (m : Mem) xs, deepD m (.lst xs) = (deepL m xs).map D.lst := by intros; rfl
theorem ev659 : ∀ (m : Mem) xs, deepD m (.tup xs) = (deepL m xs).map D.tup := by intros; rfl
theorem ev660 : ∀ n, D.lowI n [] = true := by intros; rfl
theorem ev661 : ∀ n, D.lowT n [] = true := by intros; rfl
theorem ev662 : ∀ (m : Mem) x, (m ++ [x]).length = m.length + 1 := by intros; simp
theorem ev663 : ∀ (m : Mem) x y, (m ++ [x, y]).length = m.length + 2 := by intros; simp
theorem ev664 : dead [] = [] := by intros; rfl
theorem ev665 : ∀ m : Mem, (dead m).length = m.length := by exact fun m => List.length_replicate
theorem ev666 : ∀ m : Mem, dead (dead m) = dead m := by intro m; simp [dead]
theorem ev667 : ∀ i j, opLtA (.int i) (.int j) = some (.bl (decide (i < j))) := by intros; rfl
theorem ev668 : ∀ xs ys, opLtA (.tup xs) (.tup ys) = ltT2 (intsD xs) (intsD ys) := by intros; rfl
theorem ev669 : ∀ n k q ds, fgetF n k (.obj q ds) = if q = n then ds[k]? else none := by intros; rfl
theorem ev670 : ∀ (P : Ctl → Prop) e, Wp (.nx e) P = P (.nx e) := by intros; rfl
theorem ev671 : ∀ (P : Ctl → Prop) e, Wp (.bk e) P = P (.bk e) := by intros; rfl
theorem ev672 : ∀ (P : Ctl → Prop) e, Wp (.ct e) P = P (.ct e) := by intros; rfl
theorem ev673 : ∀ (P : Ctl → Prop) d c e, Wp (.rt d c e) P = P (.rt d c e) := by intros; rfl
theorem ev674 : ∀ (P : Ctl → Prop) k fs e, Wp (.exc k fs e) P = P (.exc k fs e) := by intros; rfl
theorem ev675 : ∀ (P : Ctl → Prop), Wp .bad P = P .bad := by intros; rfl
theorem ev676 : ∀ I P e, Nx I P (.nx e) = I e := by intros; rfl
theorem ev677 : ∀ I P e, Nx I P (.ct e) = I e := by intros; rfl
theorem ev678 : ∀ I P e, Nx I P (.bk e) = P (.nx e) := by intros; rfl
theorem ev679 : ∀ I P d c e, Nx I P (.rt d c e) = P (.rt d c e) := by intros; rfl
theorem ev680 : ∀ I P k fs e, Nx I P (.exc k fs e) = P (.exc k fs e) := by intros; rfl
theorem ev681 : ∀ I P, Nx I P .bad = P .bad := by intros; rfl
theorem ev682 : opIsN (.non) = some (.bl true) := by intros; rfl
theorem ev683 : opNotN (.non) = some (.bl false) := by intros; rfl
theorem ev684 : ∀ i, opIsN (.int i) = some (.bl false) := by intros; rfl
theorem ev685 : ∀ i, opNotN (.int i) = some (.bl true) := by intros; rfl
theorem ev686 : ∀ i, opIsN (.bl i) = some (.bl false) := by intros; rfl
theorem ev687 : ∀ i, opNotN (.bl i) = some (.bl true) := by intros; rfl
theorem ev688 : ∀ i, opIsN (.str i) = some (.bl false) := by intros; rfl
theorem ev689 : ∀ i, opNotN (.str i) = some (.bl true) := by intros; rfl
theorem ev690 : ∀ i, opIsN (.tup i) = some (.bl false) := by intros; rfl
theorem ev691 : ∀ i, opNotN (.tup i) = some (.bl true) := by intros; rfl
theorem ev692 : ∀ i, opIsN (.lst i) = some (.bl false) := by intros; rfl
theorem ev693 : ∀ i, opNotN (.lst i) = some (.bl true) := by intros; rfl
theorem ev694 : ∀ i j, opIsN (.obj i j) = some (.bl false) := by intros; rfl
theorem ev695 : ∀ i j, opNotN (.obj i j) = some (.bl true) := by intros; rfl
theorem ev696 : ∀ i, opIsN (.frz i) = some (.bl false) := by intros; rfl
theorem ev697 : ∀ i, opNotN (.frz i) = some (.bl true) := by intros; rfl
theorem ev698 : ∀ i, opIsN (.dik i) = some (.bl false) := by intros; rfl
theorem ev699 : ∀ i, opNotN (.dik i) = some (.bl true) := by intros; rfl
theorem ev700 : ∀ i, opIsN (.dtk i) = some (.bl false) := by intros; rfl
theorem ev701 : ∀ i, opNotN (.dtk i) = some (.bl true) := by intros; rfl
theorem ev702 : ∀ i, opIsN (.ptr i) = some (.bl false) := by intros; rfl
theorem ev703 : ∀ i, opNotN (.ptr i) = some (.bl true) := by intros; rfl
theorem ev704 : ∀ n t b, swhile n t b = whileN t b n := by intros; rfl
theorem evs : (∀ (f : D → Cl → Mem → R) d c m, R.bind (.ok d c m) f = f d c m) ∧
  (∀ (f : D → Cl → Mem → R) k fs m, R.bind (.exc k fs m) f = .exc k fs m) ∧
  (∀ (f : D → Cl → Mem → R), R.bind (.bad) f = .bad) ∧
  (∀ (f : D → Cl → Mem → RA) d c m, R.bindA (.ok d c m) f = f d c m) ∧
  (∀ (f : D → Cl → Mem → RA) k fs m, R.bindA (.exc k fs m) f = .exc k fs m) ∧
  (∀ (f : D → Cl → Mem → RA), R.bindA (.bad) f = .bad) ∧
  (∀ (f : D → Cl → Mem → RB) d c m, R.bindB (.ok d c m) f = f d c m) ∧
  (∀ (f : D → Cl → Mem → RB) k fs m, R.bindB (.exc k fs m) f = .exc k fs m) ∧
  (∀ (f : D → Cl → Mem → RB), R.bindB (.bad) f = .bad) ∧
  (∀ (f : List D → Bool → Mem → R) ds t m, RA.bind (.ok ds t m) f = f ds t m) ∧
  (∀ (f : List D → Bool → Mem → R) k fs m, RA.bind (.exc k fs m) f = .exc k fs m) ∧
  (∀ (f : List D → Bool → Mem → R), RA.bind (.bad) f = .bad) ∧
  (∀ (f : List D → Bool → Mem → RA) ds t m, RA.bindA (.ok ds t m) f = f ds t m) ∧
  (∀ (f : List D → Bool → Mem → RA) k fs m, RA.bindA (.exc k fs m) f = .exc k fs m) ∧
  (∀ (f : List D → Bool → Mem → RA), RA.bindA (.bad) f = .bad) ∧
  (∀ (f : Bool → Mem → R) b m, RB.bind (.ok b m) f = f b m) ∧
  (∀ (f : Bool → Mem → R) k fs m, RB.bind (.exc k fs m) f = .exc k fs m) ∧
  (∀ (f : Bool → Mem → R), RB.bind (.bad) f = .bad) ∧
  (∀ (f : Bool → Mem → RB) b m, RB.bindB (.ok b m) f = f b m) ∧
  (∀ (f : Bool → Mem → RB) k fs m, RB.bindB (.exc k fs m) f = .exc k fs m) ∧
  (∀ (f : Bool → Mem → RB), RB.bindB (.bad) f = .bad) ∧
  (∀ (e : Env) (f : D → Cl → Mem → Ctl) d c m, R.bindS (.ok d c m) e f = f d c m) ∧
  (∀ (e : Env) (f : D → Cl → Mem → Ctl) k fs m, R.bindS (.exc k fs m) e f = .exc k fs (e.wm m)) ∧
  (∀ (e : Env) (f : D → Cl → Mem → Ctl), R.bindS (.bad) e f = .bad) ∧
  (∀ (e : Env) (f : List D → Bool → Mem → Ctl) ds t m, RA.bindS (.ok ds t m) e f = f ds t m) ∧
  (∀ (e : Env) (f : List D → Bool → Mem → Ctl) k fs m, RA.bindS (.exc k fs m) e f = .exc k fs (e.wm m)) ∧
  (∀ (e : Env) (f : List D → Bool → Mem → Ctl), RA.bindS (.bad) e f = .bad) ∧
  (∀ (e : Env) (f : Bool → Mem → Ctl) b m, RB.bindS (.ok b m) e f = f b m) ∧
  (∀ (e : Env) (f : Bool → Mem → Ctl) k fs m, RB.bindS (.exc k fs m) e f = .exc k fs (e.wm m)) ∧
  (∀ (e : Env) (f : Bool → Mem → Ctl), RB.bindS (.bad) e f = .bad) ∧
  (∀ (f : Env → Ctl) e, Ctl.bind (.nx e) f = f e) ∧
  (∀ (m : Mem) d, ofO m (some d) = .ok d .cold m) ∧
  (∀ (m : Mem), ofO m (none) = .bad) ∧
  (∀ (m : Mem) (d : D), nwS m d (.fresh) = .ok (.ptr m.length) .cold (m ++ [some d])) ∧
  (∀ (m : Mem) d, varS m (some (.cold d)) = .ok d .cold m) ∧
  (∀ (m : Mem) d, varS m (some (.hot d)) = .ok d .hot m) ∧
  (∀ (m : Mem) c ds, varS m (some (.slf c ds)) = .ok (.obj c ds) .hot m) ∧
  (∀ (m : Mem) d, varS m (some (.bor d)) = .ok d .taint m) ∧
  (∀ (i : Nat) e, var i e = varS e.mem (e.get i)) ∧
  (∀ (d : D) e, con d e = .ok d .cold e.mem) ∧
  (∀ (f : D → Option D) (a : X) e, op1 f a e = (a e).bind fun x c m => rd m x c fun x _ => ofO m (f x)) ∧
  (∀ (f : D → Option D) (a : X) e, op1n f a e = (a e).bind fun x _ m => ofO m (f x)) ∧
  (∀ (f : D → D → Option D) (a b : X) e, op2 f a b e = (a e).bind fun x c m => (b (e.wm m)).bind fun y c' m => rd m x c fun x _ => rd m y c' fun y _ => ofO m (f x y)) ∧
  (∀ (m : Mem) (r : R), chS m r (some (.bl true)) = r) ∧
  (∀ (m : Mem) (r : R), chS m r (some (.bl false)) = .ok (.bl false) .cold m) ∧
  (∀ (m : Mem) (r : R), orS m r (some (.bl true)) = .ok (.bl true) .cold m) ∧
  (∀ (m : Mem) (r : R), orS m r (some (.bl false)) = r) ∧
  (∀ (f g : D → D → Option D) (a b c : X) e, chain f g a b c e = (a e).bind fun x _ m => (b (e.wm m)).bind fun y _ m => chS m ((c (e.wm m)).bind fun z _ m => ofO m (g y z)) (f x y)) ∧
  (∀ (m : Mem) b, tstS m (.bl b) = .ok b m) ∧
  (∀ (a : X) e, tst a e = (a e).bindB fun d _ m => tstS m d) ∧
  (∀ (a b : XB) e, tand a b e = (a e).bindB fun k m => if k = true then b (e.wm m) else .ok false m) ∧
  (∀ (a b : XB) e, tor a b e = (a e).bindB fun k m => if k = true then .ok true m else b (e.wm m)) ∧
  (∀ (a : XB) e, tnot a e = (a e).bindB fun k m => .ok (!k) m) ∧
  (∀ e, tyes e = .ok true e.mem) ∧
  (∀ (a b : X) e, vand a b e = (a e).bind fun d _ m => chS m (b (e.wm m)) (some d)) ∧
  (∀ (a b : X) e, vor a b e = (a e).bind fun d _ m => orS m (b (e.wm m)) (some d)) ∧
  (∀ (m : Mem) b, ntS m (.bl b) = .ok (.bl (!b)) .cold m) ∧
  (∀ (a : X) e, vnot a e = (a e).bind fun d _ m => ntS m d) ∧
  (∀ (t : XB) (a b : X) e, cond t a b e = (t e).bind fun k m => if k = true then a (e.wm m) else b (e.wm m)) ∧
  (∀ (d : D), dirty (.hot) d = true) ∧
  (∀ (d : D), dirty (.taint) d = !d.scalar) ∧
  (∀ (a : X) e, nw a e = (a e).bind fun d c m => nwS m d c) ∧
  (∀ e, anil e = .ok [] false e.mem) ∧
  (∀ (a : X) (r : XA) e, acons a r e = (a e).bindA fun d c m => (r (e.wm m)).bindA fun ds t m => .ok (d :: ds) (dirty c d || t) m) ∧
  (∀ (a : XA) e, tupx a e = (a e).bind fun ds t m => if ds.length ≤ most then .ok (.tup ds) (if t = true then .taint else .cold) m else .bad) ∧
  (∀ (a : XA) e, lstx a e = (a e).bind fun ds t m => if ds.length ≤ most then .ok (.lst ds) (if t = true then .taint else .fresh) m else .bad) ∧
  (∀ (d : D), part (.taint) d = if d.scalar = true then .cold else .taint) ∧
  (outB (.fresh) = .fresh) ∧
  (∀ d c m, back (.ok d c m) = .ok d (outB c) m) ∧
  (∀ (d : D), post d (.fresh) = if d.flat = true then .fresh else .taint) ∧
  (∀ (m : Mem) d c m', lent m (.ok d c m') = if m'.length = m.length then .ok d (post d c) m else .bad) ∧
  (∀ (m : Mem) k fs m', lent m (.exc k fs m') = if m'.length = m.length ∧ fs.all D.scalar = true then .exc k fs m else .bad) ∧
  (∀ (m : Mem), lent m (.bad) = .bad) ∧
  (∀ (t : Bool) (g : F) (ds : List D) (m : Mem), run t g ds m = if t = true then lent m (g ds (dead m)) else back (g ds m)) ∧
  (∀ (n : Nat) (g : F) (a : XA) e, call n g a e = (a e).bind fun ds t m => if ds.length = n then run t g ds m else .bad) ∧
  (∀ (m : Mem) d c w1, own m (.ok d c w1) = if d.noptr = true then .ok d c m else .bad) ∧
  (∀ (m : Mem) k fs w1, own m (.exc k fs w1) = if D.noptrs fs = true then .exc k fs m else .bad) ∧
  (∀ (m : Mem), own m (.bad) = .bad) ∧
  (∀ (g : F) ds m, lone g ds m = if D.noptrs ds = true then own m (g ds []) else .bad) ∧
  (∀ (n : Nat) (dl : List D) (g : F) ds m, dft n dl g ds m = if dl.length ≤ n then g (ds ++ dl) m else .bad) ∧
  (∀ d m w1, freshR (.ok d w1 m) = .ok d .fresh m) ∧
  (∀ (t : Bool) (cl : Cl) (m : Mem) d m' w1, lentR t cl m (.ok d w1 m') = if m'.length = m.length then .ok d cl m else .bad) ∧
  (∀ (t : Bool) (cl : Cl) (m : Mem) k fs m', lentR t cl m (.exc k fs m') = if m'.length = m.length ∧ (t = false ∨ fs.all D.scalar = true) then .exc k fs m else .bad) ∧
  (∀ (t : Bool) (cl : Cl) (m : Mem), lentR t cl m (.bad) = .bad) ∧
  (∀ (t : Bool) (g : F) (ds : List D) (m : Mem), mkR t g ds m = if t = true then lentR true .taint m (g ds (dead m)) else freshR (g ds m)) ∧
  (∀ (n : Nat) (g : F) (a : XA) e, mk n g a e = (a e).bind fun ds t m => if ds.length = n then mkR t g ds m else .bad) ∧
  (∀ (n : Nat) (g : F) (a : XA) e, mkN n g a e = (a e).bind fun ds t m => if ds.length = n then lentR t .fresh m (g ds (dead m)) else .bad) ∧
  (∀ (c : Nat) e, mk0 c e = .ok (.obj c []) .fresh e.mem) ∧
  (∀ (r : R), orxS r (.bad) = r) ∧
  (∀ (a b : X) e, orx a b e = orxS (b e) (a e)) ∧
  (∀ (n m : Nat) (g : F) (e : Env) (a : XA) (c : Cl) (μ : Mem) k fs, meS n m g e a c μ (.obj k fs) = if k = n then (a (e.wm μ)).bind fun ds t μ => (if ds.length = m then run (dirty c (.obj k fs) || t) g (.obj k fs :: ds) μ else .bad) else .bad) ∧
  (∀ (n m : Nat) (g : F) (o : X) (a : XA) e, meth n m g o a e = (o e).bind fun d c μ => meS n m g e a c μ d) ∧
  (∀ (n m : Nat) (g : F) (e : Env) (a : XA) (p : Nat) (μ : Mem) k w1, mpS n m g e a p μ (some (.obj k w1)) = if k = n then (a (e.wm μ)).bind fun ds t μ => (if ds.length = m then run t g (.ptr p :: ds) μ else .bad) else .bad) ∧
  (∀ (n m : Nat) (g : F) (e : Env) (a : XA) (μ : Mem) p, mpT n m g e a μ (.ptr p) = mpS n m g e a p μ (at_ μ p)) ∧
  (∀ (n m : Nat) (g : F) (o : X) (a : XA) e, methP n m g o a e = (o e).bind fun d _ μ => mpT n m g e a μ d) ∧
  (∀ (c : Cl) (m : Mem) x, flT c m (some x) = .ok x (part c x) m) ∧
  (∀ (c : Cl) (m : Mem), flT c m (none) = .bad) ∧
  (∀ (n k : Nat) (c : Cl) (m : Mem) q fs, flS n k c m (.obj q fs) = if q = n then flT c m (fs[k]?) else .bad) ∧
  (∀ (n k : Nat) (o : X) e, fld n k o e = (o e).bind fun d c m => rd m d c fun d c => flS n k c m d) ∧
  (∀ xs i, item (.lst xs) (.int i) = atI xs i) ∧
  (∀ xs i, item (.tup xs) (.int i) = atI xs i) ∧
  (∀ ns i, item (.frz ns) (.int i) = (atI ns i).map D.int) ∧
  (∀ (a b : X) e, idx a b e = (a e).bind fun x c m => (b (e.wm m)).bind fun y _ m => rd m x c fun x c => flT c m (item x y)) ∧
  (∀ (f : Option Int → Mem → R) o m, RO.bind (.ok o m) f = f o m) ∧
  (∀ (f : Option Int → Mem → R), RO.bind (.bad) f = .bad) ∧
  (∀ e, onone e = .ok none e.mem) ∧
  (∀ i m w1, osS (.ok (.int i) w1 m) = .ok (some i) m) ∧
  (∀ (a : X) e, osome a e = osS (a e)) ∧
  (∀ (ds : List D), again (.taint) ds = if ds.all D.scalar = true then .fresh else .taint) ∧
  (∀ (c : Cl) (l h : Option Int) (m : Mem) xs, slS c l h m (.lst xs) = .ok (.lst (cut xs l h)) (again c (cut xs l h)) m) ∧
  (∀ (c : Cl) (l h : Option Int) (m : Mem) ns, slS c l h m (.frz ns) = .ok (.lst ((cut ns l h).map D.int)) .fresh m) ∧
  (∀ (c : Cl) (l h : Option Int) (m : Mem) xs, slS c l h m (.tup xs) = if sIx xs.length 0 l = 0 ∧ sIx xs.length xs.length h = xs.length then .ok (.tup xs) (part c (.tup xs)) m else .ok (.tup (cut xs l h)) (part c (.tup (cut xs l h))) m) ∧
  (∀ (a : X) (lo hi : XO) e, slice a lo hi e = (a e).bind fun x c m => (lo (e.wm m)).bind fun l m => (hi (e.wm m)).bind fun h m => rd m x c fun x c => slS c l h m x) ∧
  (∀ xs, items (.lst xs) = some xs) ∧
  (∀ xs, items (.tup xs) = some xs) ∧
  (∀ ns, items (.frz ns) = some (ns.map D.int)) ∧
  (∀ (c : Cl) (m : Mem) ds, loS c m (some ds) = .ok (.lst ds) (again c ds) m) ∧
  (∀ (c : Cl) (m : Mem), loS c m (none) = .bad) ∧
  (∀ (a : X) e, listOf a e = (a e).bind fun x c m => rd m x c fun x c => loS c m (items x)) ∧
  (∀ (m : Mem) a b, lrS m (.int a) (.int b) = if (-4000000000 < a ∧ a < 4000000000) ∧ (-4000000000 < b ∧ b < 4000000000) ∧ b - a ≤ 1000000 then .ok (.lst (((List.range (b - a).toNat).map fun (i : Nat) => a + (i : Int)).map D.int)) .fresh m else .bad) ∧
  (∀ (lo hi : X) e, listRng lo hi e = (lo e).bind fun x _ m => (hi (e.wm m)).bind fun y _ m => lrS m x y) ∧
  (∀ (c : Cl) (m : Mem) ds, tuS c m (.lst ds) = .ok (.tup ds) (part c (.tup ds)) m) ∧
  (∀ (c : Cl) (m : Mem) ds, tuS c m (.tup ds) = .ok (.tup ds) (part c (.tup ds)) m) ∧
  (∀ (a : X) e, tupOf a e = (a e).bind fun x c m => rd m x c fun x c => tuS c m x) ∧
  (agC (.fresh) (.fresh) = .fresh) ∧
  (∀ (c c' : Cl) (m : Mem) xs ys, caS c c' m (.lst xs) (.lst ys) = if xs.length + ys.length ≤ most then .ok (.lst (xs ++ ys)) (agC (again c xs) (again c' ys)) m else .bad) ∧
  (∀ (a b : X) e, catx a b e = (a e).bind fun x c m => (b (e.wm m)).bind fun y c' m => rd m x c fun x c => rd m y c' fun y c' => caS c c' m x y) ∧
  (∀ (c c' : Cl) (m : Mem) xs ys, ctS c c' m (.tup xs) (.tup ys) = if xs.length + ys.length ≤ most ∧ xs ≠ [] ∧ ys ≠ [] then .ok (.tup (xs ++ ys)) (if (c = .taint ∨ c' = .taint) then .taint else .cold) m else .bad) ∧
  (∀ (a b : X) e, catt a b e = (a e).bind fun x c m => (b (e.wm m)).bind fun y c' m => rd m x c fun x c => rd m y c' fun y c' => ctS c c' m x y) ∧
  (∀ (c : Cl) (m : Mem) xs k, reS c m (.lst xs) (.int k) = if k ≤ 1000000 ∧ -1000000 ≤ k ∧ xs.length * k.toNat ≤ most then .ok (.lst (repD xs k)) (again c xs) m else .bad) ∧
  (∀ (a b : X) e, repx a b e = (a e).bind fun x c m => (b (e.wm m)).bind fun y _ m => rd m x c fun x c => reS c m x y) ∧
  (∀ i j, opAdd (.int i) (.int j) = some (.int (i + j))) ∧
  (∀ i j, opSub (.int i) (.int j) = some (.int (i - j))) ∧
  (∀ i j, opMul (.int i) (.int j) = if (-big < i ∧ i < big) ∧ -big < j ∧ j < big then some (.int (i * j)) else none) ∧
  (∀ i j, opDiv (.int i) (.int j) = if 0 < j ∧ j < big then some (.int (i / j)) else none) ∧
  (∀ i j, opMod (.int i) (.int j) = if 0 < j then some (.int (i % j)) else none) ∧
  (∀ i j, opPow (.int i) (.int j) = if 0 ≤ j ∧ j ≤ 1000 ∧ -1000 < i ∧ i < 1000 then some (.int (i ^ j.toNat)) else none) ∧
  (∀ i, opNeg (.int i) = some (.int (-i))) ∧
  (∀ i j, opLt (.int i) (.int j) = some (.bl (decide (i < j)))) ∧
  (∀ i j, opLe (.int i) (.int j) = some (.bl (decide (i ≤ j)))) ∧
  (∀ i j, opGt (.int i) (.int j) = some (.bl (decide (j < i)))) ∧
  (∀ i j, opGe (.int i) (.int j) = some (.bl (decide (j ≤ i)))) ∧
  (eqS (.non) (.non) = some true) ∧
  (∀ i j, eqS (.int i) (.int j) = some (decide (i = j))) ∧
  (∀ i j, eqS (.bl i) (.bl j) = some (decide (i = j))) ∧
  (∀ i j, eqS (.str i) (.str j) = some (decide (i = j))) ∧
  (∀ w1, eqS (.non) (.int w1) = some false) ∧
  (∀ w1, eqS (.int w1) (.non) = some false) ∧
  (∀ w1, eqS (.non) (.bl w1) = some false) ∧
  (∀ w1, eqS (.bl w1) (.non) = some false) ∧
  (∀ w1, eqS (.non) (.str w1) = some false) ∧
  (∀ w1, eqS (.str w1) (.non) = some false) ∧
  (∀ w1 w2, eqS (.int w1) (.str w2) = some false) ∧
  (∀ w1 w2, eqS (.str w1) (.int w2) = some false) ∧
  (∀ w1 w2, eqS (.bl w1) (.str w2) = some false) ∧
  (∀ w1 w2, eqS (.str w1) (.bl w2) = some false) ∧
  (∀ (x y : D), opEq x y = (eqS x y).map D.bl) ∧
  (∀ (x y : D), opNe x y = (eqS x y).map fun b => D.bl (!b)) ∧
  (∀ (x : D) ds, opIn x (.lst ds) = (memP x ds).map D.bl) ∧
  (∀ (x : D) ds, opIn x (.tup ds) = (memP x ds).map D.bl) ∧
  (∀ (x : D) ds, opNotIn x (.lst ds) = (memP x ds).map fun b => D.bl (!b)) ∧
  (∀ (x : D) ds, opNotIn x (.tup ds) = (memP x ds).map fun b => D.bl (!b)) ∧
  (∀ xs, fLen (.lst xs) = some (.int xs.length)) ∧
  (∀ xs, fLen (.tup xs) = some (.int xs.length)) ∧
  (∀ xs, fLen (.frz xs) = some (.int xs.length)) ∧
  (∀ i, fAbs (.int i) = some (.int (absI i))) ∧
  (∀ i j, fMax2 (.int i) (.int j) = some (.int (if j > i then j else i))) ∧
  (∀ i j, fMin2 (.int i) (.int j) = some (.int (if j < i then j else i))) ∧
  (∀ ds, fMax (.lst ds) = fMxS maxI (intsD ds)) ∧
  (∀ ds, fMin (.lst ds) = fMxS minI (intsD ds)) ∧
  (∀ ds, fAny (.lst ds) = (bools ds).map fun bs => D.bl (bs.any id)) ∧
  (∀ ds, fAll (.lst ds) = (bools ds).map fun bs => D.bl (bs.all id)) ∧
  (∀ (m : Mem) ns, soT m (some ns) = .ok (.lst ((sortI ns).map D.int)) .fresh m) ∧
  (∀ (m : Mem), soT m (none) = .bad) ∧
  (∀ (m : Mem) ds, soS m (.lst ds) = soT m (intsD ds)) ∧
  (∀ (a : X) e, sortedI a e = (a e).bind fun x c m => rd m x c fun x _ => soS m x) ∧
  (∀ (m : Mem) b, blO m (some b) = .ok (.bl b) .cold m) ∧
  (∀ (m : Mem), blO m (none) = .bad) ∧
  (∀ (p : D → Option Bool) (a : X) e, isi p a e = (a e).bind fun d c m => rd m d c fun d _ => blO m (p d)) ∧
  (∀ w1, isTup (.tup w1) = some true) ∧
  (∀ w1, isTup (.lst w1) = some false) ∧
  (∀ w1, isTup (.int w1) = some false) ∧
  (∀ w1, isTup (.bl w1) = some false) ∧
  (∀ w1, isTup (.str w1) = some false) ∧
  (isTup (.non) = some false) ∧
  (∀ w1, isLst (.lst w1) = some true) ∧
  (∀ w1, isLst (.tup w1) = some false) ∧
  (∀ w1, isLst (.int w1) = some false) ∧
  (∀ w1, isLst (.bl w1) = some false) ∧
  (∀ w1, isLst (.str w1) = some false) ∧
  (isLst (.non) = some false) ∧
  (∀ w1, isTL (.lst w1) = some true) ∧
  (∀ w1, isTL (.tup w1) = some true) ∧
  (∀ w1, isTL (.int w1) = some false) ∧
  (∀ w1, isTL (.bl w1) = some false) ∧
  (∀ w1, isTL (.str w1) = some false) ∧
  (isTL (.non) = some false) ∧
  (∀ w1, isBl (.bl w1) = some true) ∧
  (∀ w1, isBl (.lst w1) = some false) ∧
  (∀ w1, isBl (.tup w1) = some false) ∧
  (∀ w1, isBl (.int w1) = some false) ∧
  (∀ w1, isBl (.str w1) = some false) ∧
  (isBl (.non) = some false) ∧
  (∀ w1, isInt (.bl w1) = some true) ∧
  (∀ w1, isInt (.int w1) = some true) ∧
  (∀ w1, isInt (.lst w1) = some false) ∧
  (∀ w1, isInt (.tup w1) = some false) ∧
  (∀ w1, isInt (.str w1) = some false) ∧
  (isInt (.non) = some false) ∧
  (∀ w1, isStr (.str w1) = some true) ∧
  (∀ w1, isStr (.lst w1) = some false) ∧
  (∀ w1, isStr (.tup w1) = some false) ∧
  (∀ w1, isStr (.int w1) = some false) ∧
  (∀ w1, isStr (.bl w1) = some false) ∧
  (isStr (.non) = some false) ∧
  (∀ (p : Nat → Option Bool) c w1, isO p (.obj c w1) = p c) ∧
  (∀ kvs k, dget (.dik kvs) (.int k) = some (valK kvs k)) ∧
  (∀ kvs ks, dget (.dtk kvs) (.tup ks) = (intsD ks).map (valK kvs)) ∧
  (∀ (v : D) kvs k, dput v (.dik kvs) (.int k) = if kvs.length < most then some (.dik (putK kvs k v)) else none) ∧
  (∀ (v : D) kvs ks, dput v (.dtk kvs) (.tup ks) = (intsD ks).bind fun k => if kvs.length < most then some (.dtk (putK kvs k v)) else none) ∧
  (∀ (m : Mem) (c : Cl) v, diS m c (some (some v)) = .ok v (part c v) m) ∧
  (∀ (a b : X) e, didx a b e = (a e).bind fun x c m => (b (e.wm m)).bind fun y _ m => rd m x c fun x c => diS m c (dget x y)) ∧
  (∀ (m : Mem) (n : Bool) o, dnS m n (some o) = .ok (.bl (if n = true then !o.isSome else o.isSome)) .cold m) ∧
  (∀ (n : Bool) (a b : X) e, din n a b e = (a e).bind fun y _ m => (b (e.wm m)).bind fun x c m => rd m x c fun x _ => dnS m n (dget x y)) ∧
  (∀ (m : Mem) (c : Cl) (z : D) (cz : Cl) v, dgS m c z cz (some (some v)) = .ok v (part c v) m) ∧
  (∀ (m : Mem) (c : Cl) (z : D) (cz : Cl), dgS m c z cz (some none) = .ok z (if cz = .taint then .taint else .cold) m) ∧
  (∀ w1, isDic (.dik w1) = true) ∧
  (∀ w1, isDic (.dtk w1) = true) ∧
  (∀ (m : Mem) n, isDM m (.ptr n) = (at_ m n).any isDic) ∧
  (∀ (a b : X) e, dgt1 a b e = (a e).bind fun x c m => if isDM m x = true then (b (e.wm m)).bind fun y _ m => rd m x c fun x c => dgS m c .non .cold (dget x y) else .bad) ∧
  (∀ (a b z : X) e, dgt2 a b z e = (a e).bind fun x c m => if isDM m x = true then (b (e.wm m)).bind fun y _ m => (z (e.wm m)).bind fun w cz m => if dirty cz w = true then .bad else rd m x c fun x c => dgS m c w .cold (dget x y) else .bad) ∧
  (∀ e, dnewI e = .ok (.dik []) .fresh e.mem) ∧
  (∀ e, dnewT e = .ok (.dtk []) .fresh e.mem) ∧
  (∀ (m : Mem) ds, ilS m (.cold) (.lst ds) = .ok ds false m) ∧
  (∀ (m : Mem) ds, ilS m (.fresh) (.lst ds) = .ok ds false m) ∧
  (∀ (m : Mem) ns, ilS m (.cold) (.frz ns) = .ok (ns.map D.int) false m) ∧
  (∀ (a : X) e, ilst a e = (a e).bindA fun x c m => ilS m c x) ∧
  (∀ (m : Mem) ds, iuS m (.cold) (.tup ds) = .ok ds false m) ∧
  (∀ (a : X) e, itup a e = (a e).bindA fun x c m => iuS m c x) ∧
  (∀ (m : Mem) n, i1S m (.int n) = if -lim ≤ n ∧ n < lim then .ok ((rng 0 n).map D.int) false m else .bad) ∧
  (∀ (a : X) e, irng1 a e = (a e).bindA fun x _ m => i1S m x) ∧
  (∀ (m : Mem) l h, i2S m (.int l) (.int h) = if (-lim ≤ l ∧ l < lim) ∧ -lim ≤ h ∧ h < lim then .ok ((rng l h).map D.int) false m else .bad) ∧
  (∀ (a b : X) e, irng2 a b e = (a e).bindA fun x _ m => (b (e.wm m)).bindA fun y _ m => i2S m x y) ∧
  (∀ e, setMany ([]) ([]) (e) = some e) ∧
  (∀ i is d ds e, setMany (i :: is) (d :: ds) (e) = setMany is ds (e.set i (.cold d))) ∧
  (∀ i d e, Pat.put (.nm i) (d) (e) = some (e.set i (.cold d))) ∧
  (∀ is ds e, Pat.put (.tp is) (.tup ds) (e) = setMany is ds e) ∧
  (∀ y c m, l3S (.ok y c m) = if dirty c y = true then none else some (some y, m)) ∧
  (∀ (x : X) (e : Env) b m, l2S x e (.ok b m) = if b = true then l3S (x (e.wm m)) else some (none, m)) ∧
  (∀ (t : XB) (x : X), l1S t x (none) = none) ∧
  (∀ (t : XB) (x : X) e1, l1S t x (some e1) = l2S x e1 (t e1)) ∧
  (∀ (p : Pat) (t : XB) (x : X) (e : Env) (d : D), lcTurn p t x e d = l1S t x (p.put d e)) ∧
  (∀ ys m, lcT (some (ys, m)) = .ok (.lst ys) .fresh m) ∧
  (lcT (none) = .bad) ∧
  (∀ (own : List Nat) (p : Pat) (t : XB) (x : X) (e : Env) ds m w1, lcS own p t x e (.ok ds w1 m) = lcT (lcLoop p t x (wipeE e own) ds m [])) ∧
  (∀ (own : List Nat) (it : XI) (p : Pat) (t : XB) (x : X) e, lc own it p t x e = lcS own p t x e (it e)) ∧
  (∀ e, snop e = .nx e) ∧
  (∀ (e : Env), sbad e = .bad) ∧
  (∀ (a b : XS) e, seq a b e = (a e).bind b) ∧
  (∀ (i : Nat) (a : X) e, sset i a e = (a e).bindS e fun d c m => if dirty c d = true then .bad else .nx ((e.wm m).set i (.cold d))) ∧
  (∀ (i : Nat) (e : Env) (d : D), shS i e d (.fresh) = .nx (e.set i (.hot d))) ∧
  (∀ (i : Nat) (a : X) e, shot i a e = (a e).bindS e fun d c m => shS i (e.wm m) d c) ∧
  (∀ (i : Nat) (e : Env) d, sfS i e (some (.hot d)) = .nx (e.set i (.cold d))) ∧
  (∀ (i : Nat) e, sfreeze i e = sfS i e (e.get i)) ∧
  (∀ (i n : Nat) (e : Env) d, skT i n e (some d) = .nx ((e.wm (e.mem.set n none)).set i (.cold d))) ∧
  (∀ (i : Nat) (e : Env) n, skS i e (some (.cold (.ptr n))) = skT i n e (at_ e.mem n)) ∧
  (∀ (i : Nat) e, skill i e = skS i e (e.get i)) ∧
  (∀ e1, suT (some e1) = .nx e1) ∧
  (suT (none) = .bad) ∧
  (∀ (is : List Nat) (a : X) e, sunp is a e = (a e).bindS e fun d c m => if dirty c d = true then .bad else suT (Pat.put (.tp is) d (e.wm m))) ∧
  (∀ (i j : Nat) (a b : X) e, spar i j a b e = (a e).bindS e fun x c m => (b (e.wm m)).bindS e fun y c' m => if (dirty c x || dirty c' y) = true then .bad else .nx (((e.wm m).set i (.cold x)).set j (.cold y))) ∧
  (∀ (i : Nat) (e : Env) z, saT i e (some z) = .nx (e.set i (.cold z))) ∧
  (∀ (i : Nat) (e : Env), saT i e (none) = .bad) ∧
  (∀ (i : Nat) (f : D → D → Option D) (a : X) (e : Env) x, saS i f a e (some (.cold x)) = (a e).bindS e fun y _ m => saT i (e.wm m) (f x y)) ∧
  (∀ (i : Nat) (f : D → D → Option D) (a : X) e, saug i f a e = saS i f a e (e.get i)) ∧
  (∀ (a : X) e, sexpr a e = (a e).bindS e fun _ _ m => .nx (e.wm m)) ∧
  (∀ (i : Nat) (e : Env) (ds : List D) (d : D), spT i e ds d = if ds.length < most then .nx (e.set i (.hot (.lst (ds ++ [d])))) else .bad) ∧
  (∀ (i : Nat) (a : X) (e : Env) ds, spS i a e (some (.hot (.lst ds))) = (a e).bindS e fun d c m => if dirty c d = true then .bad else spT i (e.wm m) ds d) ∧
  (∀ (i : Nat) (a : X) e, sapp i a e = spS i a e (e.get i)) ∧
  (∀ (i : Nat) (e : Env) (ds : List D) ys, sxT i e ds (.fresh) (.lst ys) = if ds.length + ys.length ≤ most then .nx (e.set i (.hot (.lst (ds ++ ys)))) else .bad) ∧
  (∀ (i : Nat) (e : Env) (ds : List D) ys, sxT i e ds (.cold) (.lst ys) = if ds.length + ys.length ≤ most then .nx (e.set i (.hot (.lst (ds ++ ys)))) else .bad) ∧
  (∀ (i : Nat) (a : X) (e : Env) ds, sxS i a e (some (.hot (.lst ds))) = (a e).bindS e fun d c m => sxT i (e.wm m) ds c d) ∧
  (∀ (i : Nat) (a : X) e, sext i a e = sxS i a e (e.get i)) ∧
  (∀ (i : Nat) (e : Env) w1, scS i e (some (.hot (.lst w1))) = .nx (e.set i (.hot (.lst [])))) ∧
  (∀ (i : Nat) e, sclear i e = scS i e (e.get i)) ∧
  (∀ (i : Nat) (e : Env) z, stV i e (some z) = .nx (e.set i (.hot z))) ∧
  (∀ (i : Nat) (e : Env), stV i e (none) = .bad) ∧
  (∀ (d : D) ds z, lput d (.lst ds) (.int z) = (ixN ds.length z).map fun j => .lst (ds.set j d)) ∧
  (∀ (i : Nat) (k a : X) (e : Env) x, stS i k a e (some (.hot x)) = (a e).bindS e fun d c m => if dirty c d = true then .bad else (k (e.wm m)).bindS e fun y _ m => stV i (e.wm m) (lput d x y)) ∧
  (∀ (i : Nat) (k a : X) e, sput i k a e = stS i k a e (e.get i)) ∧
  (∀ (i : Nat) (k a : X) (e : Env) x, sdS i k a e (some (.hot x)) = (a e).bindS e fun d c m => if dirty c d = true then .bad else (k (e.wm m)).bindS e fun y ck m => if dirty ck y = true then .bad else stV i (e.wm m) (dput d x y)) ∧
  (∀ (i : Nat) (k a : X) e, sdput i k a e = sdS i k a e (e.get i)) ∧
  (∀ (k : Nat) (ds : List D) (d : D), putF k ds d = if k < ds.length then some (ds.set k d) else if k = ds.length then some (ds ++ [d]) else none) ∧
  (∀ (n i : Nat) (e : Env) es, slT n i e (some es) = .nx (e.set i (.slf n es))) ∧
  (∀ (n i : Nat) (e : Env), slT n i e (none) = .bad) ∧
  (∀ (n i : Nat) (e : Env) es, slU n i e (some es) = .nx (e.set i (.hot (.obj n es)))) ∧
  (∀ (n i : Nat) (e : Env), slU n i e (none) = .bad) ∧
  (∀ (n i k : Nat) (a : X) (e : Env) m ds, slV n i k a e (some (.slf m ds)) = if m = n then (a e).bindS e fun d c μ => (if dirty c d = true then .bad else slT n i (e.wm μ) (putF k ds d)) else .bad) ∧
  (∀ (n i k : Nat) (a : X) (e : Env) m ds, slV n i k a e (some (.hot (.obj m ds))) = if m = n then (a e).bindS e fun d c μ => (if dirty c d = true then .bad else slU n i (e.wm μ) (putF k ds d)) else .bad) ∧
  (∀ (n i k : Nat) (a : X) e, sfld n i k a e = slV n i k a e (e.get i)) ∧
  (∀ (n : Nat) (m : Mem) (e : Env) d, setM n m e (some d) = .nx (e.wm (m.set n (some d)))) ∧
  (∀ (n : Nat) (m : Mem) (e : Env), setM n m e (none) = .bad) ∧
  (∀ (f : D → Option D) (e : Env) (m : Mem) n, ptT f e m (.ptr n) = setM n m e ((at_ m n).bind f)) ∧
  (∀ (x : D) ds, fapp x (.lst ds) = if ds.length < most then some (.lst (ds ++ [x])) else none) ∧
  (∀ w1, isLO (some (.lst w1)) = true) ∧
  (∀ (m : Mem) n, lsM m (.ptr n) = isLO (at_ m n)) ∧
  (∀ (o a : X) e, sappP o a e = (o e).bindS e fun p _ m => if lsM m p = true then (a (e.wm m)).bindS e fun d c m => if dirty c d = true then .bad else ptT (fapp d) e m p else .bad) ∧
  (∀ (o k a : X) e, sputP o k a e = (a e).bindS e fun d c m => if dirty c d = true then .bad else (o (e.wm m)).bindS e fun p _ m => (k (e.wm m)).bindS e fun y _ m => ptT (fun x => lput d x y) e m p) ∧
  (∀ (o k a : X) e, sdputP o k a e = (a e).bindS e fun d c m => if dirty c d = true then .bad else (o (e.wm m)).bindS e fun p _ m => (k (e.wm m)).bindS e fun y ck m => if dirty ck y = true then .bad else ptT (fun x => dput d x y) e m p) ∧
  (∀ (n k : Nat) (d : D) q ds, fputF n k d (.obj q ds) = if q = n then (putF k ds d).map (D.obj n) else none) ∧
  (∀ (n k : Nat) (o a : X) e, sfldP n k o a e = (a e).bindS e fun d c m => if dirty c d = true then .bad else (o (e.wm m)).bindS e fun p _ m => ptT (fputF n k d) e m p) ∧
  (∀ w1, fclr (.lst w1) = some (.lst [])) ∧
  (∀ (o : X) e, sclearP o e = (o e).bindS e fun p _ m => ptT fclr e m p) ∧
  (∀ (k : Nat) e, sraise k e = .exc k [] e) ∧
  (∀ (k n : Nat) (dl : List D) (a : XA) e, sraiseF k n dl a e = (a e).bindS e fun ds t m => if t = true then .bad else if ds.length = n then .exc k (ds ++ dl) (e.wm m) else .bad) ∧
  (∀ w1 w2, offS (.exn w1 w2) = .no) ∧
  (∀ (i : Nat) e, sufC i (.nx e) = .nx ((offE e).set i .no)) ∧
  (∀ (i : Nat) e, sufC i (.bk e) = .bk ((offE e).set i .no)) ∧
  (∀ (i : Nat) e, sufC i (.ct e) = .ct ((offE e).set i .no)) ∧
  (∀ (i : Nat) d c e, sufC i (.rt d c e) = .rt d c ((offE e).set i .no)) ∧
  (∀ (i : Nat) w1 w2 w3, sufC i (.exc w1 w2 w3) = .bad) ∧
  (∀ (i : Nat), sufC i (.bad) = .bad) ∧
  (∀ (i : Nat) (h : XS) (k : Nat) (fs : List D) (e1 : Env), trX i h k fs e1 (some true) = sufC i (h ((offE e1).set i (.exn k fs)))) ∧
  (∀ (i : Nat) (h : XS) (k : Nat) (fs : List D) (e1 : Env), trX i h k fs e1 (some false) = .exc k fs e1) ∧
  (∀ (i : Nat) (h : XS) (k : Nat) (fs : List D) (e1 : Env), trX i h k fs e1 (none) = .bad) ∧
  (∀ (i : Nat) (m : Nat → Option Bool) (h : XS) k fs e1, trS i m h (.exc k fs e1) = trX i h k fs e1 (m k)) ∧
  (∀ (i : Nat) (m : Nat → Option Bool) (b h : XS) e, stryX i m b h e = trS i m h (b e)) ∧
  (∀ (m : Mem) d, exG m (some d) = .ok d .cold m) ∧
  (∀ (m : Mem), exG m (none) = .bad) ∧
  (∀ (n j : Nat) (m : Mem) k fs, exF n j m (some (.exn k fs)) = if k = n then exG m (fs[j]?) else .bad) ∧
  (∀ (n i j : Nat) e, exf n i j e = exF n j e.mem (e.get i)) ∧
  (∀ (n : Nat) (r : Bool) (m : Mem) k w1, exI n r m (some (.exn k w1)) = if k = n then .ok (.bl r) .cold m else .bad) ∧
  (∀ (n i : Nat) (r : Bool) e, exis n i r e = exI n r e.mem (e.get i)) ∧
  (∀ w1 w2 w3, tnS (.exc w1 w2 w3) = .bad) ∧
  (∀ (b : XS) e, stryN b e = tnS (b e)) ∧
  (∀ (t : XB) (a b : XS) e, sif t a b e = (t e).bindS e fun k m => if k = true then a (e.wm m) else b (e.wm m)) ∧
  (∀ (a : X) e, sret a e = (a e).bindS e fun d c m => .rt d c (e.wm m)) ∧
  (∀ e, sretN e = .rt .non .cold e) ∧
  (∀ e, sbrk e = .bk e) ∧
  (∀ e, scnt e = .ct e) ∧
  (∀ (f : Env → Ctl) e, fT f (.nx e) = f e) ∧
  (∀ (f : Env → Ctl) e, fT f (.ct e) = f e) ∧
  (∀ (f : Env → Ctl) e, fT f (.bk e) = .nx e) ∧
  (∀ (f : Env → Ctl), fO f (none) = .bad) ∧
  (∀ (f : Env → Ctl) e, fO f (some e) = f e) ∧
  (∀ (p : Pat) (b : XS) (e : Env) ds m w1, foS p b e (.ok ds w1 m) = forL p b ds (e.wm m)) ∧
  (∀ (p : Pat) (b : XS) (e : Env) k fs m, foS p b e (.exc k fs m) = .bad) ∧
  (∀ (p : Pat) (b : XS) (e : Env), foS p b e (.bad) = .bad) ∧
  (∀ (it : XI) (p : Pat) (b : XS) e, sfor it p b e = foS p b e (it e)) ∧
  (outC (.hot) = .fresh) ∧
  (outC (.fresh) = .fresh) ∧
  (∀ (m : Mem) a b c, lr3S m (.int a) (.int b) (.int c) = if (-4000000000 < a ∧ a < 4000000000) ∧ (-4000000000 < b ∧ b < 4000000000) ∧ (0 < c ∧ c < 1000000) ∧ b - a ≤ 1000000 then .ok (.lst ((rng3 a b c).map D.int)) .fresh m else .bad) ∧
  (∀ (a b c : X) e, listRng3 a b c e = (a e).bind fun x _ m => (b (e.wm m)).bind fun y _ m => (c (e.wm m)).bind fun z _ m => lr3S m x y z) ∧
  (∀ (n : Nat) (m : Mem) d, trO n m (some d) = if D.low n d = true then .ok d .cold (m.take n) else .bad) ∧
  (∀ (n : Nat) (m : Mem), trO n m (none) = .bad) ∧
  (∀ (n : Nat) (c : Cl) (m : Mem) k, trV n c m (.ptr k) = if n ≤ k then trO n m (at_ m k) else .ok (.ptr k) .cold (m.take n)) ∧
  (∀ (p : Pat) (b : XS) (e : Env) ds m w1, foR p b e (.ok ds w1 m) = forL p b ds (e.wm m)) ∧
  (∀ (m : Mem) (c : Cl) ds, iaS m c (.tup ds) = (if c = .cold then .ok ds false m else .bad)) ∧
  (∀ (p : Pat) (b : XS) (e : Env) d c m, fxS p b e (.ok d c m) = fxV p b e c m d) ∧
  (∀ (a : X) (p : Pat) (b : XS) e, sforx a p b e = fxS p b e (a e)) ∧
  (∀ (c : Cl) (m : Mem) xs k, rtS c m (.tup xs) (.int k) = if 1 ≤ k ∧ k ≤ 1000 ∧ xs.isEmpty = false ∧ xs.length ≤ 1000 then .ok (.tup (repD xs k)) (part c (.tup (repD xs k))) m else .bad) ∧
  (∀ (a b : X) e, rept a b e = (a e).bind fun x c m => (b (e.wm m)).bind fun y _ m => rd m x c fun x c => rtS c m x y) ∧
  (∀ (k : List Int), tupK k = .tup (k.map .int)) ∧
  (∀ (n : Nat) (x0 : D) ys m, lcdT n x0 (some (ys, m)) = .ok (.lst ys) .fresh (m.set n (some x0))) ∧
  (∀ (n : Nat) (x0 : D), lcdT n x0 (none) = .bad) ∧
  (∀ (own : List Nat) (is : List Nat) (t : XB) (x : X) (e : Env) (n : Nat) (kvs : List (List Int × D)) k m1 w1, lcdU own is t x e n kvs (.ok (.ptr k) w1 m1) = if k = n then lcdT n (.dtk kvs) (lcLoop (.tp is) t x (wipeE e own) (kvs.map fun kv => tupK kv.1) m1 []) else .bad) ∧
  (∀ (own : List Nat) (a : X) (is : List Nat) (t : XB) (x : X) (e : Env) (n : Nat) kvs, lcdS own a is t x e n (some (.dtk kvs)) = lcdU own is t x e n kvs (a (e.wm (e.mem.set n none)))) ∧
  (∀ (own : List Nat) (a : X) (is : List Nat) (t : XB) (x : X) (e : Env) n w1 w2, lcdR own a is t x e (.ok (.ptr n) w1 w2) = lcdS own a is t x e n (at_ e.mem n)) ∧
  (∀ (own : List Nat) (a : X) (is : List Nat) (t : XB) (x : X) e, lcd own a is t x e = lcdR own a is t x e (a e)) ∧
  (∀ (n : Nat) (m : Mem) k, resO n m (.ptr k) = if n < k then (at_ m k).bind (fun d => if D.low n d = true then some d else none) else if k < n then some (.ptr k) else none) ∧
  (∀ (n : Nat) (m : Mem), resL n m ([]) = some []) ∧
  (∀ (n : Nat) (m : Mem) d r, resL n m (d :: r) = (resO n m d).bind fun x => (resL n m r).map (x :: ·)) ∧
  (∀ (c n : Nat) (m : Mem) es, resJ c n m (some es) = .ok (.obj c es) .fresh (m.take n)) ∧
  (∀ (c n : Nat) (m : Mem), resJ c n m (none) = .bad) ∧
  (∀ (c n : Nat) (m : Mem) k fs, resI c n m (some (.obj k fs)) = if k = c then resJ c n m (resL n m fs) else .bad) ∧
  (∀ (m : Mem) kvs, sdD m (.dik kvs) = if kvs.length ≤ most then .ok (.lst ((sortI (kvs.map (·.1))).map D.int)) .fresh m else .bad) ∧
  (∀ (a : X) e, sortedD a e = (a e).bind fun x c m => rd m x c fun x _ => sdD m x) ∧
  (∀ (n : Nat) (r : Bool) (m : Mem) k w1, isoS n r m (.obj k w1) = if k = n then .ok (.bl r) .cold m else .bad) ∧
  (∀ (n : Nat) (r : Bool) (a : X) e, iso n r a e = (a e).bind fun d c m => rd m d c fun d _ => isoS n r m d) ∧
  (∀ (m : Mem) n, deep1 m (.ptr n) = at_ m n) ∧
  (∀ (m : Mem), deepL m ([]) = some []) ∧
  (∀ (m : Mem) d r, deepL m (d :: r) = (deep1 m d).bind fun x => (deepL m r).map (x :: ·)) ∧
  (∀ (m : Mem) xs, deepD m (.lst xs) = (deepL m xs).map D.lst) ∧
  (∀ (m : Mem) xs, deepD m (.tup xs) = (deepL m xs).map D.tup) ∧
  (∀ (m : Mem) (f : D → D → Option D) (x : D) y, dpT m f x (some y) = ofO m (f x y)) ∧
  (∀ (m : Mem) (f : D → D → Option D) (x : D), dpT m f x (none) = .bad) ∧
  (∀ (m : Mem) (f : D → D → Option D) (y : D) x, dpS m f y (some x) = dpT m f x (deepD m y)) ∧
  (∀ (m : Mem) (f : D → D → Option D) (y : D), dpS m f y (none) = .bad) ∧
  (∀ (f : D → D → Option D) (a b : X) e, op2M f a b e = (a e).bind fun x c m => (b (e.wm m)).bind fun y c' m => rd m x c fun x _ => rd m y c' fun y _ => dpS m f y (deepD m x)) ∧
  (∀ (m : Mem) kvs, ldS m (.dtk kvs) = if kvs.length ≤ most then .ok (.lst (kvs.map fun kv => tupK kv.1)) .fresh m else .bad) ∧
  (∀ (m : Mem) kvs, ldS m (.dik kvs) = if kvs.length ≤ most then .ok (.lst (kvs.map fun kv => .int kv.1)) .fresh m else .bad) ∧
  (∀ (a : X) e, listD a e = (a e).bind fun x c m => rd m x c fun x _ => ldS m x) ∧
  (∀ w1, isLs (.lst w1) = true) ∧
  (∀ (o a : X) e, lindex o a e = (o e).bind fun x _ m => if isLs x = true then (a (e.wm m)).bind fun y c m => rd m y c fun y _ => ofO m (fIndex y x) else .bad) ∧
  (∀ (a : X) e, lenSet a e = (a e).bind fun x c m => rd m x c fun x _ => ofO m (fLenSet x)) ∧
  (∀ (c : Cl) (m : Mem) k ks, mnS c m (some (k :: ks)) = .ok (.tup ((minL k ks).map .int)) (part c (.tup ((minL k ks).map .int))) m) ∧
  (∀ (c : Cl) (m : Mem) ds, mnT c m (.lst ds) = if ds.length ≤ most then mnS c m (tupsD ds) else .bad) ∧
  (∀ (a : X) e, minTx a e = (a e).bind fun x c m => rd m x c fun x c => mnT c m x) ∧
  (∀ (c : Cl) (m : Mem) xs, rvS c m (.lst xs) = .ok (.lst xs.reverse) (again c xs.reverse) m) ∧
  (∀ (a : X) e, revx a e = (a e).bind fun x c m => rd m x c fun x c => rvS c m x) ∧
  (∀ (i : Nat) (e : Env) (ds : List D) j, rmT i e ds (some (.int j)) = .nx (e.set i (.hot (.lst (ds.eraseIdx j.toNat))))) ∧
  (∀ (i : Nat) (a : X) (e : Env) ds, rmS i a e (some (.hot (.lst ds))) = (a e).bindS e fun d c m => rmT i (e.wm m) ds (fIndex d (.lst ds))) ∧
  (∀ (i : Nat) (a : X) e, srem i a e = rmS i a e (e.get i)) ∧
  (∀ (i : Nat) (e : Env) (ds : List D) (d : D) n, inT i e ds d (.int n) = if (0 ≤ n ∧ n < 4000000000) ∧ ds.length < most then .nx (e.set i (.hot (.lst (ds.take n.toNat ++ [d] ++ ds.drop n.toNat)))) else .bad) ∧
  (∀ (i : Nat) (k a : X) (e : Env) ds, inS i k a e (some (.hot (.lst ds))) = (k e).bindS e fun y _ m => (a (e.wm m)).bindS e fun d c m => if dirty c d = true then .bad else inT i (e.wm m) ds d y) ∧
  (∀ (i : Nat) (k a : X) e, sins i k a e = inS i k a e (e.get i)) ∧
  (∀ (m : Mem) ds, ihS m (some (.hot (.lst ds))) = .ok ds false m) ∧
  (∀ (i : Nat) e, ihot i e = ihS e.mem (e.get i)) ∧
  (∀ (i : Nat) (h : XS) (k : Nat) (fs : List D) (e1 : Env) (rest : Ctl), tyB i h k fs e1 rest (some true) = sufC i (h ((offE e1).set i (.exn k fs)))) ∧
  (∀ (i : Nat) (h : XS) (k : Nat) (fs : List D) (e1 : Env) (rest : Ctl), tyB i h k fs e1 rest (some false) = rest) ∧
  (∀ (i : Nat) (h : XS) (k : Nat) (fs : List D) (e1 : Env) (rest : Ctl), tyB i h k fs e1 rest (none) = .bad) ∧
  (∀ (i : Nat) k fs e1, tyX i ([]) (k) (fs) (e1) = .exc k fs e1) ∧
  (∀ (i : Nat) m h r k fs e1, tyX i ((m, h) :: r) (k) (fs) (e1) = tyB i h k fs e1 (tyX i r k fs e1) (m k)) ∧
  (∀ (m : Mem) ds, irS m (.cold) (.lst ds) = .ok ds.reverse false m) ∧
  (∀ (m : Mem) ds, irS m (.fresh) (.lst ds) = .ok ds.reverse false m) ∧
  (∀ (a : X) e, irev a e = (a e).bindA fun x c m => irS m c x) ∧
  (∀ (m : Mem) ns, ssT m (some ns) = if ns.length < 63 then .ok (.lst ((sortI (uniqI ns)).map D.int)) .fresh m else .bad) ∧
  (∀ (m : Mem), ssT m (none) = .bad) ∧
  (∀ (m : Mem) ds, ssS m (.lst ds) = ssT m (intsD ds)) ∧
  (∀ (a : X) e, sortSet a e = (a e).bind fun x c m => rd m x c fun x _ => ssS m x) ∧
  (∀ (m : Mem) ds, ieS m (.cold) (.lst ds) = .ok (enumD ds) false m) ∧
  (∀ (m : Mem) ds, ieS m (.fresh) (.lst ds) = .ok (enumD ds) false m) ∧
  (∀ (a : X) e, ienum a e = (a e).bindA fun x c m => ieS m c x) ∧
  (∀ (m : Mem) (xs : List D) ys, izT m xs (.cold) (.lst ys) = .ok (zipD xs ys) false m) ∧
  (∀ (m : Mem) (xs : List D) ys, izT m xs (.fresh) (.lst ys) = .ok (zipD xs ys) false m) ∧
  (∀ (m : Mem) (c' : Cl) (y : D) xs, izS m c' y (.cold) (.lst xs) = izT m xs c' y) ∧
  (∀ (m : Mem) (c' : Cl) (y : D) xs, izS m c' y (.fresh) (.lst xs) = izT m xs c' y) ∧
  (∀ (a b : X) e, izip a b e = (a e).bindA fun x c m => (b (e.wm m)).bindA fun y c' m => izS m c' y c x) ∧
  (∀ i, fInt (.int i) = some (.int i)) ∧
  (∀ b, fInt (.bl b) = some (.int (if b = true then 1 else 0))) ∧
  (∀ (n k q : Nat) (e : Env) (m : Mem) z, sgU n k q e m (some z) = ptT (fputF n k z) e m (.ptr q)) ∧
  (∀ (n k q : Nat) (e : Env) (m : Mem), sgU n k q e m (none) = .bad) ∧
  (∀ (n k q : Nat) (f : D → D → Option D) (a : X) (e : Env) (m : Mem) x, sgT n k q f a e m (some x) = (a (e.wm m)).bindS e fun y _ m => sgU n k q e m (f x y)) ∧
  (∀ (n k q : Nat) (f : D → D → Option D) (a : X) (e : Env) (m : Mem), sgT n k q f a e m (none) = .bad) ∧
  (∀ (n k : Nat) (f : D → D → Option D) (a : X) (e : Env) (m : Mem) q, sgS n k f a e m (.ptr q) = sgT n k q f a e m ((at_ m q).bind (fgetF n k))) ∧
  (∀ (n k : Nat) (f : D → D → Option D) (o a : X) e, saugP n k f o a e = (o e).bindS e fun p _ m => sgS n k f a e m p) ∧
  (∀ i j, opMulB (.int i) (.int j) = if (wideI i && wideI j) = true then some (.int (i * j)) else none) ∧
  (∀ (c : Cl) (m : Mem) (ds : List D) ks, sortT c m ds (some ks) = if ks.Nodup ∧ ds.length ≤ 1000 then .ok (.lst ((sortP (ks.zip ds)).map (·.2))) (again c ds) m else .bad) ∧
  (∀ (c : Cl) (m : Mem) (ds : List D), sortT c m ds (none) = .bad) ∧
  (∀ (g : F) (c : Cl) (m : Mem) ds, skD g c m (.lst ds) = sortT c m ds (keysL g m ds)) ∧
  (∀ (g : F) (a : X) e, sortK g a e = (a e).bind fun x c m => rd m x c fun x c => skD g c m x) ∧
  (∀ ks, lnI (some ks) = if ks.Nodup ∧ ks.length < 64 then some (.int (ks.length : Nat)) else none) ∧
  (lnI (none) = none) ∧
  (∀ ds, fLenSetI (.lst ds) = lnI (intsD ds)) ∧
  (∀ (a : X) e, lenSetI a e = (a e).bind fun x c m => rd m x c fun x _ => ofO m (fLenSetI x)) ∧
  (∀ xs, opEqE (.lst xs) (.lst []) = some (.bl xs.isEmpty)) ∧
  (∀ (c c' : Cl) (m : Mem) xs ys, ctA c c' m (.tup xs) (.tup ys) = if xs.length + ys.length ≤ most then (if xs = [] then .ok (.tup ys) (part c' (.tup ys)) m else if ys = [] then .ok (.tup xs) (part c (.tup xs)) m else .ok (.tup (xs ++ ys)) (if (c = .taint ∨ c' = .taint) then .taint else .cold) m) else .bad) ∧
  (∀ (a b : X) e, catA a b e = (a e).bind fun x c m => (b (e.wm m)).bind fun y c' m => rd m x c fun x c => rd m y c' fun y c' => ctA c c' m x y) ∧
  (okN ([]) ([]) = true) ∧
  (∀ xs ys w1 w2, okN (.int w1 :: xs) (.int w2 :: ys) = okN xs ys) ∧
  (∀ a xs b ys, okN (.tup a :: xs) (.tup b :: ys) = if (intsD a).isSome = true then (if (intsD b).isSome = true then okN xs ys else false) else false) ∧
  (∀ i xs j ys, lexN (.int i :: xs) (.int j :: ys) = if i = j then lexN xs ys else decide (i < j)) ∧
  (∀ a xs b ys, lexN (.tup a :: xs) (.tup b :: ys) = if intsD a = intsD b then lexN xs ys else lexLt ((intsD a).getD []) ((intsD b).getD [])) ∧
  (∀ xs ys, opLtN (.tup xs) (.tup ys) = if okN xs ys = true then some (.bl (lexN xs ys)) else none) ∧
  (∀ (n : Nat) (m : Mem) (ds : List D) x, ppT n m ds (some x) = .ok x .cold (m.set n (some (.lst ds.dropLast)))) ∧
  (∀ (n : Nat) (m : Mem) (ds : List D), ppT n m ds (none) = .bad) ∧
  (∀ (n : Nat) (m : Mem) ds, ppL n m (some (.lst ds)) = ppT n m ds (ds[ds.length - 1]?)) ∧
  (∀ (m : Mem) n, ppS m (.ptr n) = ppL n m (at_ m n)) ∧
  (∀ (o : X) e, popP o e = (o e).bind fun p _ m => ppS m p) ∧
  (∀ (i : Nat) (e : Env) (n : Nat) ds, sthT i e n (some (.lst ds)) = .nx ((e.wm (e.mem.set n none)).set i (.cold (.lst ds)))) ∧
  (∀ (i : Nat) (e : Env) n, sthS i e (some (.cold (.ptr n))) = sthT i e n (at_ e.mem n)) ∧
  (∀ (i : Nat) e, sthaw i e = sthS i e (e.get i)) ∧
  (∀ (m : Mem) ds, sttS m (.tup ds) = soT m (intsD ds)) ∧
  (∀ (a : X) e, sortedTI a e = (a e).bind fun x c m => rd m x c fun x _ => sttS m x) ∧
  (∀ (c : Cl) (m : Mem) x ds, mnO c m (x :: ds) = if ((x :: ds).all fun a => (x :: ds).all fun b => tnOk a b) = true then .ok (minN x ds) (part c (minN x ds)) m else .bad) ∧
  (∀ (c : Cl) (m : Mem), mnO c m ([]) = .bad) ∧
  (∀ (c : Cl) (m : Mem) ds, mnU c m (.lst ds) = if ds.length ≤ most then mnO c m ds else .bad) ∧
  (∀ (a : X) e, minTN a e = (a e).bind fun x c m => rd m x c fun x c => mnU c m x) ∧
  (∀ (ds : List D) j, fremT ds (some (.int j)) = some (.lst (ds.eraseIdx j.toNat))) ∧
  (∀ (d : D) ds, frem d (.lst ds) = fremT ds (fIndex d (.lst ds))) ∧
  (∀ (o a : X) e, sremP o a e = (o e).bindS e fun p _ m => if lsM m p = true then (a (e.wm m)).bindS e fun d c m => ptT (frem d) e m p else .bad) ∧
  (∀ (l : List S) (m : Mem) i, Env.get ⟨l, m⟩ i = l[i]?) ∧
  (∀ (l : List S) (m : Mem) i s, Env.set ⟨l, m⟩ i s = ⟨l.set i s, m⟩) ∧
  (∀ (l : List S) (m m' : Mem), Env.wm ⟨l, m⟩ m' = ⟨l, m'⟩) ∧
  (∀ (l : List S) (m : Mem), Env.mem ⟨l, m⟩ = m) ∧
  (∀ (f : Env → Ctl) d c e, Ctl.bind (.rt d c e) f = .rt d c e) ∧
  (∀ (f : Env → Ctl) e, Ctl.bind (.bk e) f = .bk e) ∧
  (∀ (f : Env → Ctl) e, Ctl.bind (.ct e) f = .ct e) ∧
  (∀ (f : Env → Ctl) k fs e, Ctl.bind (.exc k fs e) f = .exc k fs e) ∧
  (∀ (f : Env → Ctl), Ctl.bind .bad f = .bad) ∧
  (∀ d, dirty .cold d = false) ∧
  (∀ d, dirty .fresh d = false) ∧
  (∀ d, part .cold d = .cold) ∧
  (∀ d, part .fresh d = .cold) ∧
  (∀ d, part .hot d = .cold) ∧
  (outB .cold = .cold) ∧
  (outB .hot = .cold) ∧
  (outB .taint = .cold) ∧
  (∀ d, post d .cold = if d.scalar = true then .cold else .taint) ∧
  (∀ d, post d .hot = if d.scalar = true then .cold else .taint) ∧
  (∀ d, post d .taint = if d.scalar = true then .cold else .taint) ∧
  (∀ k fs m, back (.exc k fs m) = .exc k fs m) ∧
  (back .bad = .bad) ∧
  (∀ k fs m, freshR (.exc k fs m) = .exc k fs m) ∧
  (freshR .bad = .bad) ∧
  (∀ r d c m, orxS r (.ok d c m) = .ok d c m) ∧
  (∀ r k fs m, orxS r (.exc k fs m) = .exc k fs m) ∧
  (∀ ds, again .cold ds = .fresh) ∧
  (∀ ds, again .fresh ds = .fresh) ∧
  (∀ ds, again .hot ds = .fresh) ∧
  (agC .taint .fresh = .taint) ∧
  (agC .fresh .taint = .taint) ∧
  (agC .taint .taint = .taint) ∧
  (∀ {α : Type} (b : α) m n c (k : D → Cl → α), rdG b m (.ptr n) c k = rdS b k (at_ m n)) ∧
  (∀ {α : Type} (b : α) m c (k : D → Cl → α), rdG b m .non c k = k .non c) ∧
  (∀ {α : Type} (b : α) m c x (k : D → Cl → α), rdG b m (.bl x) c k = k (.bl x) c) ∧
  (∀ {α : Type} (b : α) m c x (k : D → Cl → α), rdG b m (.int x) c k = k (.int x) c) ∧
  (∀ {α : Type} (b : α) m c x (k : D → Cl → α), rdG b m (.str x) c k = k (.str x) c) ∧
  (∀ {α : Type} (b : α) m c x (k : D → Cl → α), rdG b m (.tup x) c k = k (.tup x) c) ∧
  (∀ {α : Type} (b : α) m c x (k : D → Cl → α), rdG b m (.lst x) c k = k (.lst x) c) ∧
  (∀ {α : Type} (b : α) m c x (k : D → Cl → α), rdG b m (.frz x) c k = k (.frz x) c) ∧
  (∀ {α : Type} (b : α) m c i x (k : D → Cl → α), rdG b m (.obj i x) c k = k (.obj i x) c) ∧
  (∀ {α : Type} (b : α) m c x (k : D → Cl → α), rdG b m (.dik x) c k = k (.dik x) c) ∧
  (∀ {α : Type} (b : α) m c x (k : D → Cl → α), rdG b m (.dtk x) c k = k (.dtk x) c) ∧
  (∀ {α : Type} (b : α) (k : D → Cl → α) x, rdS b k (some x) = k x .hot) ∧
  (∀ (m : Mem) (r : R) b, chS m r (some (.bl b)) = if b = true then r else .ok (.bl false) .cold m) ∧
  (∀ (m : Mem) (r : R) b, orS m r (some (.bl b)) = if b = true then .ok (.bl true) .cold m else r) ∧
  (∀ i m h e, trS i m h (.nx e) = .nx e) ∧
  (∀ i cl b e, stryM i cl b e = trN i cl (b e)) ∧
  (∀ i cl e, trN i cl (.nx e) = .nx e) ∧
  (∀ i cl d c e, trN i cl (.rt d c e) = .rt d c e) ∧
  (∀ i cl e, trN i cl (.bk e) = .bk e) ∧
  (∀ i cl e, trN i cl (.ct e) = .ct e) ∧
  (∀ i cl k fs e, trN i cl (.exc k fs e) = tyX i cl k fs e) ∧
  (∀ i m h d c e, trS i m h (.rt d c e) = .rt d c e) ∧
  (∀ i m h e, trS i m h (.bk e) = .bk e) ∧
  (∀ i m h e, trS i m h (.ct e) = .ct e) ∧
  (∀ i m h k fs e, trS i m h (.exc k fs e) = trX i h k fs e (m k)) ∧
  (∀ e, tnS (.nx e) = .nx e) ∧
  (∀ d c e, tnS (.rt d c e) = .rt d c e) ∧
  (∀ e, tnS (.bk e) = .bk e) ∧
  (∀ e, tnS (.ct e) = .ct e) ∧
  (offS .no = .no) ∧
  (∀ d, offS (.cold d) = .cold d) ∧
  (∀ d, offS (.hot d) = .hot d) ∧
  (∀ c d, offS (.slf c d) = .slf c d) ∧
  (∀ d, offS (.bor d) = .bor d) ∧
  (∀ c d, offS (.exn c d) = .no) ∧
  (∀ (l : List S) (m : Mem), offE ⟨l, m⟩ = ⟨l.map offS, m⟩) ∧
  (∀ (l : List S) (m : Mem) vs, wipeE ⟨l, m⟩ vs = ⟨wipeL l vs, m⟩) ∧
  (∀ l, wipeL l [] = l) ∧
  (∀ l v vs, wipeL l (v :: vs) = (wipeL l vs).set v .no) ∧
  (outC .cold = .cold) ∧
  (outC .taint = .cold) ∧
  (∀ (l : List S) (m : Mem), leave (.nx ⟨l, m⟩) = .ok .non .cold m) ∧
  (∀ d c (l : List S) (m : Mem), leave (.rt d c ⟨l, m⟩) = .ok d (outC c) m) ∧
  (∀ k fs (l : List S) (m : Mem), leave (.exc k fs ⟨l, m⟩) = .exc k fs m) ∧
  (∀ c k fs (l : List S) (m : Mem), leaveI c (.nx ⟨.slf k fs :: l, m⟩) = if k = c then .ok (.obj c fs) .fresh m else .bad) ∧
  (∀ c k fs (l : List S) (m : Mem), leaveI c (.exc k fs ⟨l, m⟩) = .exc k fs m) ∧
  (∀ (n : Nat) (ds : List D), enter n ds = ds.map S.cold ++ List.replicate (n - ds.length) S.no) ∧
  (∀ (n : Nat) (ds : List D), enterB n ds = ds.map S.bor ++ List.replicate (n - ds.length) S.no) ∧
  (∀ (a : D) xs, atI (a :: xs) 0 = some a) ∧
  (∀ (a b : D) xs, atI (a :: b :: xs) 1 = some b) ∧
  (∀ (a b c : D) xs, atI (a :: b :: c :: xs) 2 = some c) ∧
  (∀ (a b c d : D) xs, atI (a :: b :: c :: d :: xs) 3 = some d) ∧
  (∀ (a b c d e : D) xs, atI (a :: b :: c :: d :: e :: xs) 4 = some e) ∧
  (∀ (a b c d e f : D) xs, atI (a :: b :: c :: d :: e :: f :: xs) 5 = some f) ∧
  (∀ (a b c d e f g : D) xs, atI (a :: b :: c :: d :: e :: f :: g :: xs) 6 = some g) ∧
  (∀ (a b c d e f g h : D) xs, atI (a :: b :: c :: d :: e :: f :: g :: h :: xs) 7 = some h) ∧
  (∀ (xs : List D) x, atI (xs ++ [x]) (-1) = some x) ∧
  (∀ ns, intsD (ns.map D.int) = some ns) ∧
  (∀ ns, bools (ns.map D.bl) = some ns) ∧
  (∀ (ds : List D), fSum (.lst ds) = (intsD ds).map fun ns => D.int ns.sum) ∧
  (∀ (ns : List Int) (g : List Int → Int) n, fMxS g (some (n :: ns)) = some (.int (g (n :: ns)))) ∧
  (D.scalar .non = true) ∧
  (∀ i, D.scalar (.int i) = true) ∧
  (∀ i, D.scalar (.bl i) = true) ∧
  (∀ i, D.scalar (.str i) = true) ∧
  (∀ i, D.scalar (.tup i) = false) ∧
  (∀ i, D.scalar (.lst i) = false) ∧
  (∀ c i, D.scalar (.obj c i) = false) ∧
  (∀ i, D.scalar (.frz i) = false) ∧
  (∀ i, D.scalar (.dik i) = false) ∧
  (∀ i, D.scalar (.dtk i) = false) ∧
  (∀ i, D.scalar (.ptr i) = false) ∧
  (∀ xs, D.flat (.lst xs) = xs.all D.scalar) ∧
  (∀ xs, D.flat (.tup xs) = xs.all D.scalar) ∧
  (∀ c xs, D.flat (.obj c xs) = false) ∧
  (D.noptr .non = true) ∧
  (∀ i, D.noptr (.int i) = true) ∧
  (∀ i, D.noptr (.bl i) = true) ∧
  (∀ i, D.noptr (.str i) = true) ∧
  (∀ i, D.noptr (.frz i) = true) ∧
  (∀ xs, D.noptr (.tup xs) = D.noptrs xs) ∧
  (∀ xs, D.noptr (.lst xs) = D.noptrs xs) ∧
  (∀ c xs, D.noptr (.obj c xs) = D.noptrs xs) ∧
  (∀ xs, D.noptr (.dik xs) = D.noptrI xs) ∧
  (∀ xs, D.noptr (.dtk xs) = D.noptrT xs) ∧
  (D.noptrs [] = true) ∧
  (∀ x xs, D.noptrs (x :: xs) = (D.noptr x && D.noptrs xs)) ∧
  (D.noptrI [] = true) ∧
  (D.noptrT [] = true) ∧
  (∀ (x : D) m, at_ (some x :: m) 0 = some x) ∧
  (∀ (x : Option D) y m, at_ (x :: some y :: m) 1 = some y) ∧
  (∀ (x y : Option D) z m, at_ (x :: y :: some z :: m) 2 = some z) ∧
  (∀ (x y z : Option D) w m, at_ (x :: y :: z :: some w :: m) 3 = some w) ∧
  (∀ (m : Mem) x l, at_ (m ++ some x :: l) m.length = some x) ∧
  (∀ (m : Mem) n l, n < m.length → at_ (m ++ l) n = at_ m n) ∧
  (most = 1000000) ∧
  (big = 340282366920938463463374607431768211456) ∧
  (lim = 4611686018427387904) ∧
  (∀ n, D.low n .non = true) ∧
  (∀ n i, D.low n (.int i) = true) ∧
  (∀ n i, D.low n (.bl i) = true) ∧
  (∀ n i, D.low n (.str i) = true) ∧
  (∀ n i, D.low n (.frz i) = true) ∧
  (∀ n xs, D.low n (.tup xs) = D.lows n xs) ∧
  (∀ n xs, D.low n (.lst xs) = D.lows n xs) ∧
  (∀ n c xs, D.low n (.obj c xs) = D.lows n xs) ∧
  (∀ n xs, D.low n (.dik xs) = D.lowI n xs) ∧
  (∀ n xs, D.low n (.dtk xs) = D.lowT n xs) ∧
  (∀ n k, D.low n (.ptr k) = decide (k < n)) ∧
  (∀ n c (m : Mem), trV n c m (.non) = if D.low n (.non) = true then .ok (.non) c (m.take n) else .bad) ∧
  (∀ n c (m : Mem) i, trV n c m (.int i) = if D.low n (.int i) = true then .ok (.int i) c (m.take n) else .bad) ∧
  (∀ n c (m : Mem) i, trV n c m (.bl i) = if D.low n (.bl i) = true then .ok (.bl i) c (m.take n) else .bad) ∧
  (∀ n c (m : Mem) i, trV n c m (.str i) = if D.low n (.str i) = true then .ok (.str i) c (m.take n) else .bad) ∧
  (∀ n c (m : Mem) i, trV n c m (.frz i) = if D.low n (.frz i) = true then .ok (.frz i) c (m.take n) else .bad) ∧
  (∀ n c (m : Mem) xs, trV n c m (.tup xs) = if D.low n (.tup xs) = true then .ok (.tup xs) c (m.take n) else .bad) ∧
  (∀ n c (m : Mem) xs, trV n c m (.lst xs) = if D.low n (.lst xs) = true then .ok (.lst xs) c (m.take n) else .bad) ∧
  (∀ n c (m : Mem) q xs, trV n c m (.obj q xs) = if D.low n (.obj q xs) = true then .ok (.obj q xs) c (m.take n) else .bad) ∧
  (∀ n c (m : Mem) xs, trV n c m (.dik xs) = if D.low n (.dik xs) = true then .ok (.dik xs) c (m.take n) else .bad) ∧
  (∀ n c (m : Mem) xs, trV n c m (.dtk xs) = if D.low n (.dtk xs) = true then .ok (.dtk xs) c (m.take n) else .bad) ∧
  (∀ n, D.lows n [] = true) ∧
  (∀ n x xs, D.lows n (x :: xs) = (D.low n x && D.lows n xs)) ∧
  (∀ (g : F) ds m, trim g ds m = trimR m (g ds m)) ∧
  (∀ (m : Mem) d c m', trimR m (.ok d c m') = trM m m' (trV m.length c m' d)) ∧
  (∀ (m : Mem) k fs m', trimR m (.exc k fs m') = trM m m' (if D.lows m.length fs = true then .exc k fs (m'.take m.length) else .bad)) ∧
  (∀ n c (m : Mem) k, trV n c m (.ptr k) = if n ≤ k then trO n m (at_ m k) else .ok (.ptr k) .cold (m.take n)) ∧
  (∀ m r, trM m m r = r) ∧
  (∀ m l r, trM m (m ++ l) r = r) ∧
  (∀ m r, trM [] m r = r) ∧
  (∀ (m l : Mem), (m ++ l).take m.length = m) ∧
  (∀ (m : Mem), m.take m.length = m) ∧
  (∀ (m : Mem), m.take 0 = []) ∧
  (∀ (m : Mem) x y l, at_ (m ++ x :: some y :: l) (m.length + 1) = some y) ∧
  (∀ (m : Mem) x y l, (m ++ x :: l).set m.length y = m ++ y :: l) ∧
  (∀ (m : Mem) x z y l, (m ++ x :: z :: l).set (m.length + 1) y = m ++ x :: y :: l) ∧
  (∀ (m : Mem) x y z l, at_ (m ++ x :: y :: some z :: l) (m.length + 2) = some z) ∧
  (∀ (m : Mem) x y z w l, at_ (m ++ x :: y :: z :: some w :: l) (m.length + 3) = some w) ∧
  (∀ (m : Mem) x y z w l, (m ++ x :: y :: z :: l).set (m.length + 2) w = m ++ x :: y :: w :: l) ∧
  (∀ (m : Mem) x y z w v l, (m ++ x :: y :: z :: w :: l).set (m.length + 3) v = m ++ x :: y :: z :: v :: l) ∧
  (∀ (m : Mem) x y z, (m ++ [x, y, z]).length = m.length + 3) ∧
  (∀ (m : Mem) x y z w, (m ++ [x, y, z, w]).length = m.length + 4) ∧
  (∀ c (g : F) ds m, initF c g ds m = initR c m (g (.ptr m.length :: ds) (m ++ [some (.obj c [])]))) ∧
  (∀ c (m : Mem) cl m', initR c m (.ok .non cl m') = trM m m' (resI c m.length m' (at_ m' m.length))) ∧
  (∀ c (m : Mem) k fs m', initR c m (.exc k fs m') = trM m m' (if D.lows m.length fs = true ∧ (at_ m' m.length).isSome = true then .exc k fs (m'.take m.length) else .bad)) ∧
  (∀ n (m : Mem) k, resO n m (.ptr k) = if n < k then (at_ m k).bind (fun d => if D.low n d = true then some d else none) else if k < n then some (.ptr k) else none) ∧
  (∀ n (m : Mem), resO n m .non = some .non) ∧
  (∀ n (m : Mem) i, resO n m (.int i) = some (.int i)) ∧
  (∀ n (m : Mem) i, resO n m (.bl i) = some (.bl i)) ∧
  (∀ n (m : Mem) i, resO n m (.str i) = some (.str i)) ∧
  (∀ n (m : Mem) xs, resO n m (.tup xs) = if D.low n (.tup xs) = true then some (.tup xs) else none) ∧
  (∀ n (m : Mem) xs, resO n m (.lst xs) = if D.low n (.lst xs) = true then some (.lst xs) else none) ∧
  (∀ n (m : Mem) c xs, resO n m (.obj c xs) = if D.low n (.obj c xs) = true then some (.obj c xs) else none) ∧
  (∀ (m : Mem) n, deep1 m (.ptr n) = at_ m n) ∧
  (∀ (m : Mem) xs, deep1 m (.lst xs) = some (.lst xs)) ∧
  (∀ (m : Mem) xs, deep1 m (.tup xs) = some (.tup xs)) ∧
  (∀ (m : Mem) i, deep1 m (.int i) = some (.int i)) ∧
  (∀ (m : Mem) xs, deepD m (.lst xs) = (deepL m xs).map D.lst) ∧
  (∀ (m : Mem) xs, deepD m (.tup xs) = (deepL m xs).map D.tup) ∧
  (∀ n, D.lowI n [] = true) ∧
  (∀ n, D.lowT n [] = true) ∧
  (∀ (m : Mem) x, (m ++ [x]).length = m.length + 1) ∧
  (∀ (m : Mem) x y, (m ++ [x, y]).length = m.length + 2) ∧
  (dead [] = []) ∧
  (∀ m : Mem, (dead m).length = m.length) ∧
  (∀ m : Mem, dead (dead m) = dead m) ∧
  (∀ i j, opLtA (.int i) (.int j) = some (.bl (decide (i < j)))) ∧
  (∀ xs ys, opLtA (.tup xs) (.tup ys) = ltT2 (intsD xs) (intsD ys)) ∧
  (∀ n k q ds, fgetF n k (.obj q ds) = if q = n then ds[k]? else none) ∧
  (∀ (P : Ctl → Prop) e, Wp (.nx e) P = P (.nx e)) ∧
  (∀ (P : Ctl → Prop) e, Wp (.bk e) P = P (.bk e)) ∧
  (∀ (P : Ctl → Prop) e, Wp (.ct e) P = P (.ct e)) ∧
  (∀ (P : Ctl → Prop) d c e, Wp (.rt d c e) P = P (.rt d c e)) ∧
  (∀ (P : Ctl → Prop) k fs e, Wp (.exc k fs e) P = P (.exc k fs e)) ∧
  (∀ (P : Ctl → Prop), Wp .bad P = P .bad) ∧
  (∀ I P e, Nx I P (.nx e) = I e) ∧
  (∀ I P e, Nx I P (.ct e) = I e) ∧
  (∀ I P e, Nx I P (.bk e) = P (.nx e)) ∧
  (∀ I P d c e, Nx I P (.rt d c e) = P (.rt d c e)) ∧
  (∀ I P k fs e, Nx I P (.exc k fs e) = P (.exc k fs e)) ∧
  (∀ I P, Nx I P .bad = P .bad) ∧
  (opIsN (.non) = some (.bl true)) ∧
  (opNotN (.non) = some (.bl false)) ∧
  (∀ i, opIsN (.int i) = some (.bl false)) ∧
  (∀ i, opNotN (.int i) = some (.bl true)) ∧
  (∀ i, opIsN (.bl i) = some (.bl false)) ∧
  (∀ i, opNotN (.bl i) = some (.bl true)) ∧
  (∀ i, opIsN (.str i) = some (.bl false)) ∧
  (∀ i, opNotN (.str i) = some (.bl true)) ∧
  (∀ i, opIsN (.tup i) = some (.bl false)) ∧
  (∀ i, opNotN (.tup i) = some (.bl true)) ∧
  (∀ i, opIsN (.lst i) = some (.bl false)) ∧
  (∀ i, opNotN (.lst i) = some (.bl true)) ∧
  (∀ i j, opIsN (.obj i j) = some (.bl false)) ∧
  (∀ i j, opNotN (.obj i j) = some (.bl true)) ∧
  (∀ i, opIsN (.frz i) = some (.bl false)) ∧
  (∀ i, opNotN (.frz i) = some (.bl true)) ∧
  (∀ i, opIsN (.dik i) = some (.bl false)) ∧
  (∀ i, opNotN (.dik i) = some (.bl true)) ∧
  (∀ i, opIsN (.dtk i) = some (.bl false)) ∧
  (∀ i, opNotN (.dtk i) = some (.bl true)) ∧
  (∀ i, opIsN (.ptr i) = some (.bl false)) ∧
  (∀ i, opNotN (.ptr i) = some (.bl true)) ∧
  (∀ n t b, swhile n t b = whileN t b n) :=
  ⟨ev0, ev1, ev2, ev3, ev4, ev5, ev6, ev7, ev8, ev9, ev10, ev11, ev12, ev13, ev14, ev15, ev16, ev17, ev18, ev19, ev20, ev21, ev22, ev23, ev24, ev25, ev26, ev27, ev28, ev29, ev30, ev31, ev32, ev33, ev34, ev35, ev36, ev37, ev38, ev39, ev40, ev41, ev42, ev43, ev44, ev45, ev46, ev47, ev48, ev49, ev50, ev51, ev52, ev53, ev54, ev55, ev56, ev57, ev58, ev59, ev60, ev61, ev62, ev63, ev64, ev65, ev66, ev67, ev68, ev69, ev70, ev71, ev72, ev73, ev74, ev75, ev76, ev77, ev78, ev79, ev80, ev81, ev82, ev83, ev84, ev85, ev86, ev87, ev88, ev89, ev90, ev91, ev92, ev93, ev94, ev95, ev96, ev97, ev98, ev99, ev100, ev101, ev102, ev103, ev104, ev105, ev106, ev107, ev108, ev109, ev110, ev111, ev112, ev113, ev114, ev115, ev116, ev117, ev118, ev119, ev120, ev121, ev122, ev123, ev124, ev125, ev126, ev127, ev128, ev129, ev130, ev131, ev132, ev133, ev134, ev135, ev136, ev137, ev138, ev139, ev140, ev141, ev142, ev143, ev144, ev145, ev146, ev147, ev148, ev149, ev150, ev151, ev152, ev153, ev154, ev155, ev156, ev157, ev158, ev159, ev160, ev161, ev162, ev163, ev164, ev165, ev166, ev167, ev168, ev169, ev170, ev171, ev172, ev173, ev174, ev175, ev176, ev177, ev178, ev179, ev180, ev181, ev182, ev183, ev184, ev185, ev186, ev187, ev188, ev189, ev190, ev191, ev192, ev193, ev194, ev195, ev196, ev197, ev198, ev199, ev200, ev201, ev202, ev203, ev204, ev205, ev206, ev207, ev208, ev209, ev210, ev211, ev212, ev213, ev214, ev215, ev216, ev217, ev218, ev219, ev220, ev221, ev222, ev223, ev224, ev225, ev226, ev227, ev228, ev229, ev230, ev231, ev232, ev233, ev234, ev235, ev236, ev237, ev238, ev239, ev240, ev241, ev242, ev243, ev244, ev245, ev246, ev247, ev248, ev249, ev250, ev251, ev252, ev253, ev254, ev255, ev256, ev257, ev258, ev259, ev260, ev261, ev262, ev263, ev264, ev265, ev266, ev267, ev268, ev269, ev270, ev271, ev272, ev273, ev274, ev275, ev276, ev277, ev278, ev279, ev280, ev281, ev282, ev283, ev284, ev285, ev286, ev287, ev288, ev289, ev290, ev291, ev292, ev293, ev294, ev295, ev296, ev297, ev298, ev299, ev300, ev301, ev302, ev303, ev304, ev305, ev306, ev307, ev308, ev309, ev310, ev311, ev312, ev313, ev314, ev315, ev316, ev317, ev318, ev319, ev320, ev321, ev322, ev323, ev324, ev325, ev326, ev327, ev328, ev329, ev330, ev331, ev332, ev333, ev334, ev335, ev336, ev337, ev338, ev339, ev340, ev341, ev342, ev343, ev344, ev345, ev346, ev347, ev348, ev349, ev350, ev351, ev352, ev353, ev354, ev355, ev356, ev357, ev358, ev359, ev360, ev361, ev362, ev363, ev364, ev365, ev366, ev367, ev368, ev369, ev370, ev371, ev372, ev373, ev374, ev375, ev376, ev377, ev378, ev379, ev380, ev381, ev382, ev383, ev384, ev385, ev386, ev387, ev388, ev389, ev390, ev391, ev392, ev393, ev394, ev395, ev396, ev397, ev398, ev399, ev400, ev401, ev402, ev403, ev404, ev405, ev406, ev407, ev408, ev409, ev410, ev411, ev412, ev413, ev414, ev415, ev416, ev417, ev418, ev419, ev420, ev421, ev422, ev423, ev424, ev425, ev426, ev427, ev428, ev429, ev430, ev431, ev432, ev433, ev434, ev435, ev436, ev437, ev438, ev439, ev440, ev441, ev442, ev443, ev444, ev445, ev446, ev447, ev448, ev449, ev450, ev451, ev452, ev453, ev454, ev455, ev456, ev457, ev458, ev459, ev460, ev461, ev462, ev463, ev464, ev465, ev466, ev467, ev468, ev469, ev470, ev471, ev472, ev473, ev474, ev475, ev476, ev477, ev478, ev479, ev480, ev481, ev482, ev483, ev484, ev485, ev486, ev487, ev488, ev489, ev490, ev491, ev492, ev493, ev494, ev495, ev496, ev497, ev498, ev499, ev500, ev501, ev502, ev503, ev504, ev505, ev506, ev507, ev508, ev509, ev510, ev511, ev512, ev513, ev514, ev515, ev516, ev517, ev518, ev519, ev520, ev521, ev522, ev523, ev524, ev525, ev526, ev527, ev528, ev529, ev530, ev531, ev532, ev533, ev534, ev535, ev536, ev537, ev538, ev539, ev540, ev541, ev542, ev543, ev544, ev545, ev546, ev547, ev548, ev549, ev550, ev551, ev552, ev553, ev554, ev555, ev556, ev557, ev558, ev559, ev560, ev561, ev562, ev563, ev564, ev565, ev566, ev567, ev568, ev569, ev570, ev571, ev572, ev573, ev574, ev575, ev576, ev577, ev578, ev579, ev580, ev581, ev582, ev583, ev584, ev585, ev586, ev587, ev588, ev589, ev590, ev591, ev592, ev593, ev594, ev595, ev596, ev597, ev598, ev599, ev600, ev601, ev602, ev603, ev604, ev605, ev606, ev607, ev608, ev609, ev610, ev611, ev612, ev613, ev614, ev615, ev616, ev617, ev618, ev619, ev620, ev621, ev622, ev623, ev624, ev625, ev626, ev627, ev628, ev629, ev630, ev631, ev632, ev633, ev634, ev635, ev636, ev637, ev638, ev639, ev640, ev641, ev642, ev643, ev644, ev645, ev646, ev647, ev648, ev649, ev650, ev651, ev652, ev653, ev654, ev655, ev656, ev657, ev658, ev659, ev660, ev661, ev662, ev663, ev664, ev665, ev666, ev667, ev668, ev669, ev670, ev671, ev672, ev673, ev674, ev675, ev676, ev677, ev678, ev679, ev680, ev681, ev682, ev683, ev684, ev685, ev686, ev687, ev688, ev689, ev690, ev691, ev692, ev693, ev694, ev695, ev696, ev697, ev698, ev699, ev700, ev701, ev702, ev703, ev704⟩
end Q

set_option linter.all false
set_option maxRecDepth 100000
set_option maxHeartbeats 4000000
namespace Ma
open Q
variable {μ : Mem}
theorem lexLt_irrefl : ∀ xs : List Int, lexLt xs xs = false
  | [] => rfl
  | x :: xs => by unfold lexLt; rw [if_pos rfl]; exact lexLt_irrefl xs
theorem lexLt_cons (x y : Int) (xs ys : List Int) : lexLt (x :: xs) (y :: ys) = if x = y then lexLt xs ys else decide (x < y) := by rw [lexLt]
theorem lexLt_trans : ∀ xs ys zs : List Int, lexLt xs ys = true → lexLt ys zs = true → lexLt xs zs = true
  | [], [], zs, h, _ => by cases h
  | [], _ :: _, [], _, h => by cases h
  | [], _ :: _, _ :: _, _, _ => rfl
  | _ :: _, [], zs, h, _ => by cases h
  | _ :: _, _ :: _, [], _, h => by cases h
  | x :: xs, y :: ys, z :: zs, h1, h2 => by
    rw [lexLt_cons] at h1 h2 ⊢
    by_cases e1 : x = y
    · subst e1
      rw [if_pos rfl] at h1
      by_cases e2 : x = z
      · rw [if_pos e2] at h2 ⊢
        exact lexLt_trans xs ys zs h1 h2
      · rw [if_neg e2] at h2 ⊢
        exact h2
    · rw [if_neg e1] at h1
      have h1 := of_decide_eq_true h1
      by_cases e2 : y = z
      · subst e2
        rw [if_neg (by omega)]
        exact decide_eq_true h1
      · rw [if_neg e2] at h2
        have h2 := of_decide_eq_true h2
        rw [if_neg (by omega)]
        exact decide_eq_true (by omega)
theorem lexLt_eq : ∀ xs ys : List Int, xs.length = ys.length → lexLt xs ys = false → lexLt ys xs = false → xs = ys
  | [], [], _, _, _ => rfl
  | [], _ :: _, h, _, _ => by cases h
  | _ :: _, [], h, _, _ => by cases h
  | x :: xs, y :: ys, h, h1, h2 => by
    rw [lexLt_cons] at h1 h2
    by_cases e : x = y
    · subst e
      rw [if_pos rfl] at h1 h2
      rw [lexLt_eq xs ys (by simpa using h) h1 h2]
    · rw [if_neg e] at h1
      rw [if_neg (fun z => e z.symm)] at h2
      have h1 := of_decide_eq_false h1
      have h2 := of_decide_eq_false h2
      omega
theorem lexLt_tri : ∀ xs ys : List Int, lexLt xs ys = false → lexLt ys xs = false → xs = ys
  | [], [], _, _ => rfl
  | [], _ :: _, h, _ => by cases h
  | _ :: _, [], _, h => by cases h
  | x :: xs, y :: ys, h1, h2 => by
    rw [lexLt_cons] at h1 h2
    by_cases e : x = y
    · subst e
      rw [if_pos rfl] at h1 h2
      rw [lexLt_tri xs ys h1 h2]
    · rw [if_neg e] at h1
      rw [if_neg (fun z => e z.symm)] at h2
      have h1 := of_decide_eq_false h1
      have h2 := of_decide_eq_false h2
      omega

/-! laws k62 to k72: numbers, swing, spec -/
theorem cellA_ok {ns : List Int} {k : Int} (h0 : 0 ≤ k) : Ev.l_cell_at [.frz ns, .int k] μ = .ok (.int (gt ns k)) .cold μ := by
  refine fn_wp ?_
  unfold Ev.b_l_cell_at
  by_cases q : k < ns.length
  · have g := atI_gtN (xs := ns) h0 q
    simp (disch := omega) only [Q.evs, Nat.reduceAdd, Nat.reduceSub, Nat.reduceLeDiff, Nat.reduceLT, Nat.reduceEqDiff, Int.reducePow, Int.reduceToNat, Int.reduceAdd, Int.reduceMul, Int.reduceNeg, Int.reduceSub, Int.reduceLT, Int.reduceLE, decide_eq_true_eq, Bool.or_false, Bool.or_true, Bool.false_or, Bool.true_or, Bool.not_true, Bool.not_false, Bool.not_eq_true, decide_eq_false_iff_not, Bool.not_eq_eq_eq_not, decide_true, decide_false, ↓reduceIte, if_pos, if_neg, Bool.false_eq_true, and_self, and_true, true_and, List.getElem?_cons_zero, List.getElem?_cons_succ, List.set_cons_zero, List.set_cons_succ, List.length_cons, List.length_nil, List.length_map, List.map_cons, List.map_nil, List.replicate, List.cons_append, List.nil_append, List.append_nil, Option.map_some, Option.map_none, Option.bind_some, Option.bind_none, List.append_assoc, Bool.true_and, Bool.and_true, Bool.false_and, Bool.and_false, q, g]
  · have g : gt ns k = 0 := by
      unfold gt
      rw [List.getD_eq_getElem?_getD, List.getElem?_eq_none (by omega)]; rfl
    simp (disch := omega) only [Q.evs, Nat.reduceAdd, Nat.reduceSub, Nat.reduceLeDiff, Nat.reduceLT, Nat.reduceEqDiff, Int.reducePow, Int.reduceToNat, Int.reduceAdd, Int.reduceMul, Int.reduceNeg, Int.reduceSub, Int.reduceLT, Int.reduceLE, decide_eq_true_eq, Bool.or_false, Bool.or_true, Bool.false_or, Bool.true_or, Bool.not_true, Bool.not_false, Bool.not_eq_true, decide_eq_false_iff_not, Bool.not_eq_eq_eq_not, decide_true, decide_false, ↓reduceIte, if_pos, if_neg, Bool.false_eq_true, and_self, and_true, true_and, List.getElem?_cons_zero, List.getElem?_cons_succ, List.set_cons_zero, List.set_cons_succ, List.length_cons, List.length_nil, List.length_map, List.map_cons, List.map_nil, List.replicate, List.cons_append, List.nil_append, List.append_nil, Option.map_some, Option.map_none, Option.bind_some, Option.bind_none, List.append_assoc, Bool.true_and, Bool.and_true, Bool.false_and, Bool.and_false, q, g]
theorem cutG {xs : List D} {k : Int} (h : 0 ≤ k) : cut xs (some k) none = xs.drop k.toNat := by
  unfold cut sIx
  simp only [if_neg (show ¬ k < 0 by omega)]
  by_cases q : k.toNat ≤ xs.length
  · rw [Nat.min_eq_left q, List.take_of_length_le (by rw [List.length_drop]; omega)]
  · rw [Nat.min_eq_right (by omega), List.drop_of_length_le (by omega), List.drop_of_length_le (by omega), List.take_nil]
def StrI (xs : List Int) : Prop := ∀ x ∈ xs, 0 ≤ x ∧ x < 2147483647
theorem stream_ok {c many : Int} (h0 : 0 ≤ many) (h1 : many ≤ 100) : ∃ xs : List Int, Ev.l_stream [.int c, .int many] μ = .ok (.lst (xs.map .int)) .fresh μ ∧ (xs.length : Int) = many ∧ StrI xs := by
  refine fn_wpP (fun r => ∃ xs : List Int, r = .ok (.lst (xs.map .int)) .fresh μ ∧ (xs.length : Int) = many ∧ StrI xs) ?_
  unfold Ev.b_l_stream
  have a0 := Int.emod_nonneg c (show (2147483647 : Int) ≠ 0 by decide)
  have a1 := Int.emod_lt_of_pos c (show (0 : Int) < 2147483647 by decide)
  simp (disch := omega) only [Q.evs, Nat.reduceAdd, Nat.reduceSub, Nat.reduceLeDiff, Nat.reduceLT, Nat.reduceEqDiff, Int.reducePow, Int.reduceToNat, Int.reduceAdd, Int.reduceMul, Int.reduceNeg, Int.reduceSub, Int.reduceLT, Int.reduceLE, decide_eq_true_eq, Bool.or_false, Bool.or_true, Bool.false_or, Bool.true_or, Bool.not_true, Bool.not_false, Bool.not_eq_true, decide_eq_false_iff_not, Bool.not_eq_eq_eq_not, decide_true, decide_false, ↓reduceIte, if_pos, if_neg, Bool.false_eq_true, and_self, and_true, true_and, List.getElem?_cons_zero, List.getElem?_cons_succ, List.set_cons_zero, List.set_cons_succ, List.length_cons, List.length_nil, List.length_map, List.map_cons, List.map_nil, List.replicate, List.cons_append, List.nil_append, List.append_nil, Option.map_some, Option.map_none, Option.bind_some, Option.bind_none, List.append_assoc, Bool.true_and, Bool.and_true, Bool.false_and, Bool.and_false]
  refine wp_bind (wp_rng (fun k e => ∃ (fs : List Int) (n : Int) (s4 : S), ((fs.length : Int) = k ∧ 0 ≤ n ∧ n < 2147531918 ∧ StrI fs) ∧ e = ⟨[.cold (.int c), .cold (.int many), .hot (.lst (fs.map .int)), .cold (.int n), s4], μ⟩) ⟨[], _, .no, ⟨rfl, by omega, by omega, fun x hx => by simp at hx⟩, rfl⟩ ?_ ?_)
  · rintro k e hk hk2 ⟨fs, n, s4, ⟨hl, hn0, hn1, hf⟩, rfl⟩
    have m1 := mul_le (a := n) (x := 2147531918) (b := n) (y := 2147531918) hn0 (by omega) hn0 (by omega)
    have m0 := Int.mul_nonneg hn0 hn0
    have b0 := Int.emod_nonneg (n * n + 48271 * n + k) (show (2147483647 : Int) ≠ 0 by decide)
    have b1 := Int.emod_lt_of_pos (n * n + 48271 * n + k) (show (0 : Int) < 2147483647 by decide)
    have l9 : fs.length ≤ 101 := by omega
    generalize hnn : n * n = nn at *
    generalize hx : (nn + 48271 * n + k) % 2147483647 = x at *
    simp (disch := omega) only [Q.evs, Nat.reduceAdd, Nat.reduceSub, Nat.reduceLeDiff, Nat.reduceLT, Nat.reduceEqDiff, Int.reducePow, Int.reduceToNat, Int.reduceAdd, Int.reduceMul, Int.reduceNeg, Int.reduceSub, Int.reduceLT, Int.reduceLE, decide_eq_true_eq, Bool.or_false, Bool.or_true, Bool.false_or, Bool.true_or, Bool.not_true, Bool.not_false, Bool.not_eq_true, decide_eq_false_iff_not, Bool.not_eq_eq_eq_not, decide_true, decide_false, ↓reduceIte, if_pos, if_neg, Bool.false_eq_true, and_self, and_true, true_and, List.getElem?_cons_zero, List.getElem?_cons_succ, List.set_cons_zero, List.set_cons_succ, List.length_cons, List.length_nil, List.length_map, List.map_cons, List.map_nil, List.replicate, List.cons_append, List.nil_append, List.append_nil, Option.map_some, Option.map_none, Option.bind_some, Option.bind_none, List.append_assoc, Bool.true_and, Bool.and_true, Bool.false_and, Bool.and_false, hnn, hx, List.length_map]
    refine ⟨fs ++ [x], x, .cold (.int k), ⟨by rw [List.length_append]; show ((fs.length + 1 : Nat) : Int) = _; omega, b0, by omega, fun y hy => ?_⟩, by simp⟩
    rcases List.mem_append.mp hy with h | h
    · exact hf y h
    · rw [List.mem_singleton.mp h]; exact ⟨b0, b1⟩
  · rintro e ⟨fs, n, s4, ⟨hl, _, _, hf⟩, rfl⟩
    rw [if_pos (by omega)] at hl
    have ct : cut (fs.map D.int) (some 1) none = (fs.drop 1).map .int := by
      rw [cutG (by decide)]
      exact List.map_drop.symm
    simp (disch := omega) only [Q.evs, Nat.reduceAdd, Nat.reduceSub, Nat.reduceLeDiff, Nat.reduceLT, Nat.reduceEqDiff, Int.reducePow, Int.reduceToNat, Int.reduceAdd, Int.reduceMul, Int.reduceNeg, Int.reduceSub, Int.reduceLT, Int.reduceLE, decide_eq_true_eq, Bool.or_false, Bool.or_true, Bool.false_or, Bool.true_or, Bool.not_true, Bool.not_false, Bool.not_eq_true, decide_eq_false_iff_not, Bool.not_eq_eq_eq_not, decide_true, decide_false, ↓reduceIte, if_pos, if_neg, Bool.false_eq_true, and_self, and_true, true_and, List.getElem?_cons_zero, List.getElem?_cons_succ, List.set_cons_zero, List.set_cons_succ, List.length_cons, List.length_nil, List.length_map, List.map_cons, List.map_nil, List.replicate, List.cons_append, List.nil_append, List.append_nil, Option.map_some, Option.map_none, Option.bind_some, Option.bind_none, List.append_assoc, Bool.true_and, Bool.and_true, Bool.false_and, Bool.and_false, ct]
    exact ⟨fs.drop 1, rfl, by rw [List.length_drop]; omega, fun x hx => hf x (List.mem_of_mem_drop hx)⟩
/-- a number of a stream, by its place -/
theorem StrI.at {xs : List Int} (h : StrI xs) {k : Int} (h0 : 0 ≤ k) (h1 : k < xs.length) : atI (xs.map D.int) k = some (.int (gt xs k)) ∧ 0 ≤ gt xs k ∧ gt xs k < 2147483647 := ⟨atI_gt h0 h1, h _ (gt_mem h0 h1)⟩

/-! heaps -/
def loopS {σ : Type} (c : σ → Bool) (f : σ → σ) : Nat → σ → σ
  | 0, s => s
  | n + 1, s => if c s = true then loopS c f n (f s) else s
theorem loopS_inv {σ : Type} {c : σ → Bool} {f : σ → σ} {J : σ → Prop} (step : ∀ s, J s → c s = true → J (f s)) : ∀ (n : Nat) (s : σ), J s → J (loopS c f n s)
  | 0, s, h => h
  | n + 1, s, h => by
    unfold loopS
    by_cases q : c s = true
    · rw [if_pos q]; exact loopS_inv step n _ (step s h q)
    · rw [if_neg q]; exact h
theorem loopS_end {σ : Type} {c : σ → Bool} {f : σ → σ} {J : σ → Prop} {rank : σ → Nat} (step : ∀ s, J s → c s = true → J (f s) ∧ rank (f s) < rank s) : ∀ (n : Nat) (s : σ), J s → rank s ≤ n → c (loopS c f n s) = false
  | 0, s, h, hr => by
    unfold loopS
    cases q : c s with
    | false => rfl
    | true => have := (step s h q).2; omega
  | n + 1, s, h, hr => by
    unfold loopS
    by_cases q : c s = true
    · rw [if_pos q]
      have := step s h q
      exact loopS_end step n _ this.1 (by omega)
    · rw [if_neg q]; exact Bool.eq_false_iff.mpr q
theorem while_pure {σ : Type} {t : XB} {b : XS} {c : σ → Bool} {f : σ → σ} {rank : σ → Nat} (R : σ → Env → Prop) (ht : ∀ s e, R s e → t e = .ok (c s) e.mem)
    (hb : ∀ s e, R s e → c s = true → (∃ e', b e = .nx e' ∧ R (f s) e') ∧ rank (f s) < rank s) : ∀ (N n : Nat) (s : σ) (e : Env), R s e → rank s ≤ n → n < N → ∃ e', whileN t b N e = .nx e' ∧ R (loopS c f n s) e' := by
  intro N
  induction N with
  | zero => intro n s e _ _ h; omega
  | succ N ih =>
    intro n s e hR hr hN
    have e1 : whileN t b (N + 1) e = (t e).bindS e fun k m => if k = true then fT (whileN t b N) (b (e.wm m)) else .nx (e.wm m) := rfl
    have e0 : e.wm e.mem = e := rfl
    rw [e1, ht s e hR]
    show ∃ e', (if c s = true then fT (whileN t b N) (b (e.wm e.mem)) else .nx (e.wm e.mem)) = .nx e' ∧ _
    rw [e0]
    by_cases q : c s = true
    · obtain ⟨⟨e', h1, h2⟩, h3⟩ := hb s e hR q
      cases n with
      | zero => omega
      | succ n =>
        rw [if_pos q, h1]
        obtain ⟨e2, h4, h5⟩ := ih n (f s) e' h2 (by omega) (by omega)
        refine ⟨e2, h4, ?_⟩
        unfold loopS
        rw [if_pos q]; exact h5
    · rw [if_neg q]
      refine ⟨e, rfl, ?_⟩
      cases n with
      | zero => exact hR
      | succ n => unfold loopS; rw [if_neg q]; exact hR

section
variable {α : Type} [Inhabited α]
def gA (hs : List α) (i : Int) : α := hs.getD i.toNat default
def swp (hs : List α) (a b : Int) : List α := (hs.set a.toNat (gA hs b)).set b.toNat (gA hs a)
theorem swp_len (hs : List α) (a b : Int) : (swp hs a b).length = hs.length := by unfold swp; rw [List.length_set, List.length_set]
theorem atI_gA {toD : α → D} {hs : List α} {i : Int} (h0 : 0 ≤ i) (h1 : i < hs.length) : atI (hs.map toD) i = some (toD (gA hs i)) := by
  rw [atI_map toD h0 h1]
  unfold gA
  rw [List.getD_eq_getElem?_getD, List.getElem?_eq_getElem (by omega)]; rfl
/-- up: where and the things -/
def upC (lt : α → α → Bool) (s : List α × Int) : Bool := decide (0 < s.2) && lt (gA s.1 s.2) (gA s.1 ((s.2 - 1) / 2))
def upF (s : List α × Int) : List α × Int := (swp s.1 ((s.2 - 1) / 2) s.2, (s.2 - 1) / 2)
def putH (lt : α → α → Bool) (hs : List α) (x : α) : List α := (loopS (upC lt) upF (hs.length + 1) (hs ++ [x], (hs.length : Int))).1
/-- the least of a thing and the two below it -/
def lbS (lt : α → α → Bool) (hs : List α) (l b : Int) : Int := if b < hs.length ∧ lt (gA hs b) (gA hs l) = true then b else l
def lbH (lt : α → α → Bool) (hs : List α) (i : Int) : Int := lbS lt hs (lbS lt hs i (2 * i + 1)) (2 * i + 2)
theorem lbS_or (lt : α → α → Bool) (hs : List α) (l b : Int) : lbS lt hs l b = l ∨ (lbS lt hs l b = b ∧ b < hs.length) := by
  unfold lbS
  by_cases q : b < hs.length ∧ lt (gA hs b) (gA hs l) = true
  · rw [if_pos q]; exact .inr ⟨rfl, q.1⟩
  · rw [if_neg q]; exact .inl rfl
theorem lbH_or {lt : α → α → Bool} {hs : List α} {i : Int} (h0 : 0 ≤ i) (h1 : i < hs.length) : (0 ≤ lbH lt hs i ∧ lbH lt hs i < hs.length) ∧ (lbH lt hs i = i ∨ i < lbH lt hs i) := by
  unfold lbH
  rcases lbS_or lt hs i (2 * i + 1) with a | ⟨a, a2⟩ <;> rcases lbS_or lt hs (lbS lt hs i (2 * i + 1)) (2 * i + 2) with b | ⟨b, b2⟩ <;> rw [b] <;> (try rw [a]) <;> omega
def dnC (s : List α × Int × Int) : Bool := decide (s.2.2 ≠ s.2.1)
def dnF (lt : α → α → Bool) (s : List α × Int × Int) : List α × Int × Int := (swp s.1 s.2.2 s.2.1, s.2.2, lbH lt (swp s.1 s.2.2 s.2.1) s.2.2)
def takeH (lt : α → α → Bool) (hs : List α) : List α :=
  let ds := hs.dropLast
  if ds.length = 0 then [] else (loopS dnC (dnF lt) (hs.length + 1) (ds.set 0 (gA hs (hs.length - 1)), 0, lbH lt (ds.set 0 (gA hs (hs.length - 1))) 0)).1
end

theorem heap_put_ok {α : Type} [Inhabited α] {toD : α → D} {lt : α → α → Bool} (hlt : ∀ a b, opLtN (toD a) (toD b) = some (.bl (lt a b))) (hrd : ∀ (m : Mem) a (β : Type) (z : β) (c : Cl) (f : D → Cl → β), rdG z m (toD a) c f = f (toD a) c) {q : Nat} {hs : List α} {x : α} (hq : at_ μ q = some (.lst (hs.map toD))) (hl : hs.length ≤ 900000) :
    Ev.heap_put [.ptr q, toD x] μ = .ok .non .cold (μ.set q (some (.lst ((putH lt hs x).map toD)))) := by
  refine fn_wp ?_
  unfold Ev.b_heap_put
  have ql := at_lt hq
  have as9 : ∀ L : D, at_ (μ.set q (some L)) q = some L := fun L => at_set ql
  have ss9 : ∀ L L' : Option D, (μ.set q L).set q L' = μ.set q L' := fun L L' => List.set_set ..
  have ml : ((hs ++ [x]).map toD) = hs.map toD ++ [toD x] := by rw [List.map_append]; rfl
  have ml2 : ((hs ++ [x]).length : Int) = hs.length + 1 := by simp
  have ll : (hs.map toD).length = hs.length := List.length_map ..
  have rx := hrd μ x
  simp (disch := omega) only [Q.evs, Nat.reduceAdd, Nat.reduceSub, Nat.reduceLeDiff, Nat.reduceLT, Nat.reduceEqDiff, Int.reducePow, Int.reduceToNat, Int.reduceAdd, Int.reduceMul, Int.reduceNeg, Int.reduceSub, Int.reduceLT, Int.reduceLE, decide_eq_true_eq, Bool.or_false, Bool.or_true, Bool.false_or, Bool.true_or, Bool.not_true, Bool.not_false, Bool.not_eq_true, decide_eq_false_iff_not, Bool.not_eq_eq_eq_not, decide_true, decide_false, ↓reduceIte, if_pos, if_neg, Bool.false_eq_true, and_self, and_true, true_and, List.getElem?_cons_zero, List.getElem?_cons_succ, List.set_cons_zero, List.set_cons_succ, List.length_cons, List.length_nil, List.length_map, List.map_cons, List.map_nil, List.replicate, List.cons_append, List.nil_append, List.append_nil, Option.map_some, Option.map_none, Option.bind_some, Option.bind_none, List.append_assoc, Bool.true_and, Bool.and_true, Bool.false_and, Bool.and_false, hq, as9, ← ml]
  have key := while_pure (c := upC lt) (f := upF) (rank := fun s => s.2.toNat) (t := tand (tst (op2 opGt (var 2) (con (.int 0)))) (tst (op2 opLtN (idx (var 0) (var 2)) (idx (var 0) (op2 opDiv (op2 opSub (var 2) (con (.int 1))) (con (.int 2)))))))
    (b := seq (sset 3 (op2 opDiv (op2 opSub (var 2) (con (.int 1))) (con (.int 2)))) (seq (sset 4 (idx (var 0) (var 3))) (seq (sputP (var 0) (var 3) (idx (var 0) (var 2))) (seq (sputP (var 0) (var 2) (var 4)) (sset 2 (var 3))))))
    (fun s e => (s.1.length = hs.length + 1 ∧ 0 ≤ s.2 ∧ s.2 ≤ hs.length) ∧ ∃ s3 s4, e = ⟨[.cold (.ptr q), .cold (toD x), .cold (.int s.2), s3, s4], μ.set q (some (.lst (s.1.map toD)))⟩)
    (by
      rintro ⟨xs, i⟩ e ⟨⟨h1, h2, h3⟩, s3, s4, rfl⟩
      unfold upC
      have h1 : xs.length = hs.length + 1 := h1
      have h3 : i ≤ (hs.length : Int) := h3
      by_cases q0 : 0 < i
      · have a1 := atI_gA (toD := toD) (hs := xs) (i := i) h2 (by show i < (xs.length : Int); omega)
        have a2 := atI_gA (toD := toD) (hs := xs) (i := (i - 1) / 2) (by omega) (by omega)
        have l1 := hlt (gA xs i) (gA xs ((i - 1) / 2))
        have r1 := hrd (μ.set q (some (.lst (xs.map toD)))) (gA xs i)
        have r2 := hrd (μ.set q (some (.lst (xs.map toD)))) (gA xs ((i - 1) / 2))
        simp (disch := omega) only [Q.evs, Nat.reduceAdd, Nat.reduceSub, Nat.reduceLeDiff, Nat.reduceLT, Nat.reduceEqDiff, Int.reducePow, Int.reduceToNat, Int.reduceAdd, Int.reduceMul, Int.reduceNeg, Int.reduceSub, Int.reduceLT, Int.reduceLE, decide_eq_true_eq, Bool.or_false, Bool.or_true, Bool.false_or, Bool.true_or, Bool.not_true, Bool.not_false, Bool.not_eq_true, decide_eq_false_iff_not, Bool.not_eq_eq_eq_not, decide_true, decide_false, ↓reduceIte, if_pos, if_neg, Bool.false_eq_true, and_self, and_true, true_and, List.getElem?_cons_zero, List.getElem?_cons_succ, List.set_cons_zero, List.set_cons_succ, List.length_cons, List.length_nil, List.length_map, List.map_cons, List.map_nil, List.replicate, List.cons_append, List.nil_append, List.append_nil, Option.map_some, Option.map_none, Option.bind_some, Option.bind_none, List.append_assoc, Bool.true_and, Bool.and_true, Bool.false_and, Bool.and_false, as9, q0, a1, a2, l1, r1, r2]
      · simp (disch := omega) only [Q.evs, Nat.reduceAdd, Nat.reduceSub, Nat.reduceLeDiff, Nat.reduceLT, Nat.reduceEqDiff, Int.reducePow, Int.reduceToNat, Int.reduceAdd, Int.reduceMul, Int.reduceNeg, Int.reduceSub, Int.reduceLT, Int.reduceLE, decide_eq_true_eq, Bool.or_false, Bool.or_true, Bool.false_or, Bool.true_or, Bool.not_true, Bool.not_false, Bool.not_eq_true, decide_eq_false_iff_not, Bool.not_eq_eq_eq_not, decide_true, decide_false, ↓reduceIte, if_pos, if_neg, Bool.false_eq_true, and_self, and_true, true_and, List.getElem?_cons_zero, List.getElem?_cons_succ, List.set_cons_zero, List.set_cons_succ, List.length_cons, List.length_nil, List.length_map, List.map_cons, List.map_nil, List.replicate, List.cons_append, List.nil_append, List.append_nil, Option.map_some, Option.map_none, Option.bind_some, Option.bind_none, List.append_assoc, Bool.true_and, Bool.and_true, Bool.false_and, Bool.and_false, q0])
    (by
      rintro ⟨xs, i⟩ e ⟨⟨h1, h2, h3⟩, s3, s4, rfl⟩ hc
      have q0 : 0 < i := by
        unfold upC at hc
        rw [Bool.and_eq_true] at hc
        exact of_decide_eq_true hc.1
      have h1 : xs.length = hs.length + 1 := h1
      have h3 : i ≤ (hs.length : Int) := h3
      have a1 := atI_gA (toD := toD) (hs := xs) (i := i) h2 (by omega)
      have a2 := atI_gA (toD := toD) (hs := xs) (i := (i - 1) / 2) (by omega) (by omega)
      have r1 := fun m => hrd m (gA xs i)
      have r2 := fun m => hrd m (gA xs ((i - 1) / 2))
      have x1 : ixN xs.length ((i - 1) / 2) = some ((i - 1) / 2).toNat := ixN_of (by omega) (by omega)
      have x2 : ixN xs.length i = some i.toNat := ixN_of (by omega) (by omega)
      have m1 : ((xs.map toD).set ((i - 1) / 2).toNat (toD (gA xs i))) = (xs.set ((i - 1) / 2).toNat (gA xs i)).map toD := (List.map_set ..).symm
      have m2 : (((xs.set ((i - 1) / 2).toNat (gA xs i)).map toD).set i.toNat (toD (gA xs ((i - 1) / 2)))) = (swp xs ((i - 1) / 2) i).map toD := (List.map_set ..).symm
      have l9 : (xs.set ((i - 1) / 2).toNat (gA xs i)).length = xs.length := List.length_set ..
      refine ⟨⟨_, ?_, ⟨⟨by show (swp xs ((i - 1) / 2) i).length = _; rw [swp_len]; exact h1, by show 0 ≤ (i - 1) / 2; omega, by show (i - 1) / 2 ≤ (hs.length : Int); omega⟩, .cold (.int ((i - 1) / 2)), .cold (toD (gA xs ((i - 1) / 2))), rfl⟩⟩, by show ((i - 1) / 2).toNat < i.toNat; omega⟩
      simp (disch := omega) only [Q.evs, Nat.reduceAdd, Nat.reduceSub, Nat.reduceLeDiff, Nat.reduceLT, Nat.reduceEqDiff, Int.reducePow, Int.reduceToNat, Int.reduceAdd, Int.reduceMul, Int.reduceNeg, Int.reduceSub, Int.reduceLT, Int.reduceLE, decide_eq_true_eq, Bool.or_false, Bool.or_true, Bool.false_or, Bool.true_or, Bool.not_true, Bool.not_false, Bool.not_eq_true, decide_eq_false_iff_not, Bool.not_eq_eq_eq_not, decide_true, decide_false, ↓reduceIte, if_pos, if_neg, Bool.false_eq_true, and_self, and_true, true_and, List.getElem?_cons_zero, List.getElem?_cons_succ, List.set_cons_zero, List.set_cons_succ, List.length_cons, List.length_nil, List.length_map, List.map_cons, List.map_nil, List.replicate, List.cons_append, List.nil_append, List.append_nil, Option.map_some, Option.map_none, Option.bind_some, Option.bind_none, List.append_assoc, Bool.true_and, Bool.and_true, Bool.false_and, Bool.and_false, as9, ss9, a1, a2, r1, r2, x1, x2, m1, m2, l9]
      rfl) 1000000 (hs.length + 1) (hs ++ [x], (hs.length : Int)) _ ⟨⟨by simp, by simp, by simp⟩, .no, .no, rfl⟩ (by simp) (by omega)
  have e0 : ((hs ++ [x]).length : Int) - 1 = hs.length := by simp
  rw [e0]
  obtain ⟨e', k1, ⟨⟨h1, _, _⟩, s3, s4, rfl⟩⟩ := key
  show leave (whileN _ _ 1000000 _) = _
  rw [k1]
  rfl

theorem least_below_ok {α : Type} [Inhabited α] {toD : α → D} {lt : α → α → Bool} (hlt : ∀ a b, opLtN (toD a) (toD b) = some (.bl (lt a b))) (hrd : ∀ (m : Mem) a (β : Type) (z : β) (c : Cl) (f : D → Cl → β), rdG z m (toD a) c f = f (toD a) c) {q : Nat} {hs : List α} {i : Int} (hq : at_ μ q = some (.lst (hs.map toD))) (h0 : 0 ≤ i) (h1 : i < hs.length) (hl : hs.length ≤ 1000000) :
    Ev.least_below [.ptr q, .int i] μ = .ok (.int (lbH lt hs i)) .cold μ := by
  refine fn_wp ?_
  unfold Ev.b_least_below
  obtain ⟨B, hB⟩ : ∃ B : XS, sif (tand (tst (op2 opLt (var 3) (op1 fLen (var 0)))) (tst (op2 opLtN (idx (var 0) (var 3)) (idx (var 0) (var 2))))) (sset 2 (var 3)) snop = B := ⟨_, rfl⟩
  have step : ∀ (l b : Int), 0 ≤ l → l < hs.length → 0 ≤ b → B ⟨[.cold (.ptr q), .cold (.int i), .cold (.int l), .cold (.int b)], μ⟩ = .nx ⟨[.cold (.ptr q), .cold (.int i), .cold (.int (lbS lt hs l b)), .cold (.int b)], μ⟩ := by
    intro l b l0 l1 b0
    rw [← hB]
    unfold lbS
    by_cases z : b < hs.length
    · have a1 := atI_gA (toD := toD) (hs := hs) b0 z
      have a2 := atI_gA (toD := toD) (hs := hs) l0 l1
      have l9 := hlt (gA hs b) (gA hs l)
      have r1 := hrd μ (gA hs b)
      have r2 := hrd μ (gA hs l)
      cases w : lt (gA hs b) (gA hs l) with
      | true =>
        rw [w] at l9
        rw [if_pos ⟨z, rfl⟩]
        simp (disch := omega) only [Q.evs, Nat.reduceAdd, Nat.reduceSub, Nat.reduceLeDiff, Nat.reduceLT, Nat.reduceEqDiff, Int.reducePow, Int.reduceToNat, Int.reduceAdd, Int.reduceMul, Int.reduceNeg, Int.reduceSub, Int.reduceLT, Int.reduceLE, decide_eq_true_eq, Bool.or_false, Bool.or_true, Bool.false_or, Bool.true_or, Bool.not_true, Bool.not_false, Bool.not_eq_true, decide_eq_false_iff_not, Bool.not_eq_eq_eq_not, decide_true, decide_false, ↓reduceIte, if_pos, if_neg, Bool.false_eq_true, and_self, and_true, true_and, List.getElem?_cons_zero, List.getElem?_cons_succ, List.set_cons_zero, List.set_cons_succ, List.length_cons, List.length_nil, List.length_map, List.map_cons, List.map_nil, List.replicate, List.cons_append, List.nil_append, List.append_nil, Option.map_some, Option.map_none, Option.bind_some, Option.bind_none, List.append_assoc, Bool.true_and, Bool.and_true, Bool.false_and, Bool.and_false, hq, a1, a2, l9, r1, r2, z]
      | false =>
        rw [w] at l9
        rw [if_neg (fun h => by cases h.2)]
        simp (disch := omega) only [Q.evs, Nat.reduceAdd, Nat.reduceSub, Nat.reduceLeDiff, Nat.reduceLT, Nat.reduceEqDiff, Int.reducePow, Int.reduceToNat, Int.reduceAdd, Int.reduceMul, Int.reduceNeg, Int.reduceSub, Int.reduceLT, Int.reduceLE, decide_eq_true_eq, Bool.or_false, Bool.or_true, Bool.false_or, Bool.true_or, Bool.not_true, Bool.not_false, Bool.not_eq_true, decide_eq_false_iff_not, Bool.not_eq_eq_eq_not, decide_true, decide_false, ↓reduceIte, if_pos, if_neg, Bool.false_eq_true, and_self, and_true, true_and, List.getElem?_cons_zero, List.getElem?_cons_succ, List.set_cons_zero, List.set_cons_succ, List.length_cons, List.length_nil, List.length_map, List.map_cons, List.map_nil, List.replicate, List.cons_append, List.nil_append, List.append_nil, Option.map_some, Option.map_none, Option.bind_some, Option.bind_none, List.append_assoc, Bool.true_and, Bool.and_true, Bool.false_and, Bool.and_false, hq, a1, a2, l9, r1, r2, z]
    · rw [if_neg (fun h => z h.1)]
      simp (disch := omega) only [Q.evs, Nat.reduceAdd, Nat.reduceSub, Nat.reduceLeDiff, Nat.reduceLT, Nat.reduceEqDiff, Int.reducePow, Int.reduceToNat, Int.reduceAdd, Int.reduceMul, Int.reduceNeg, Int.reduceSub, Int.reduceLT, Int.reduceLE, decide_eq_true_eq, Bool.or_false, Bool.or_true, Bool.false_or, Bool.true_or, Bool.not_true, Bool.not_false, Bool.not_eq_true, decide_eq_false_iff_not, Bool.not_eq_eq_eq_not, decide_true, decide_false, ↓reduceIte, if_pos, if_neg, Bool.false_eq_true, and_self, and_true, true_and, List.getElem?_cons_zero, List.getElem?_cons_succ, List.set_cons_zero, List.set_cons_succ, List.length_cons, List.length_nil, List.length_map, List.map_cons, List.map_nil, List.replicate, List.cons_append, List.nil_append, List.append_nil, Option.map_some, Option.map_none, Option.bind_some, Option.bind_none, List.append_assoc, Bool.true_and, Bool.and_true, Bool.false_and, Bool.and_false, hq, z]
  have g1 := step i (2 * i + 1) h0 h1 (by omega)
  have b1 : 0 ≤ lbS lt hs i (2 * i + 1) ∧ lbS lt hs i (2 * i + 1) < hs.length := by
    rcases lbS_or lt hs i (2 * i + 1) with a | ⟨a, a2⟩ <;> rw [a] <;> omega
  have g2 := step (lbS lt hs i (2 * i + 1)) (2 * i + 2) b1.1 b1.2 (by omega)
  have f1 : ∀ (d : D) (ds : List D) (e : Env), forL (.nm 3) B (d :: ds) e = fT (forL (.nm 3) B ds) (B (e.set 3 (.cold d))) := fun _ _ _ => rfl
  have fl : forL (.nm 3) B [.int (2 * i + 1), .int (2 * i + 2)] ⟨[.cold (.ptr q), .cold (.int i), .cold (.int i), .no], μ⟩ = .nx ⟨[.cold (.ptr q), .cold (.int i), .cold (.int (lbH lt hs i)), .cold (.int (2 * i + 2))], μ⟩ := by
    rw [f1]
    show fT (forL (.nm 3) B [.int (2 * i + 2)]) (B ⟨[.cold (.ptr q), .cold (.int i), .cold (.int i), .cold (.int (2 * i + 1))], μ⟩) = _
    rw [g1]
    show forL (.nm 3) B [.int (2 * i + 2)] ⟨[.cold (.ptr q), .cold (.int i), .cold (.int (lbS lt hs i (2 * i + 1))), .cold (.int (2 * i + 1))], μ⟩ = _
    rw [f1]
    show fT (forL (.nm 3) B []) (B ⟨[.cold (.ptr q), .cold (.int i), .cold (.int (lbS lt hs i (2 * i + 1))), .cold (.int (2 * i + 2))], μ⟩) = _
    rw [g2]
    rfl
  rw [hB]
  simp (disch := omega) only [Q.evs, Nat.reduceAdd, Nat.reduceSub, Nat.reduceLeDiff, Nat.reduceLT, Nat.reduceEqDiff, Int.reducePow, Int.reduceToNat, Int.reduceAdd, Int.reduceMul, Int.reduceNeg, Int.reduceSub, Int.reduceLT, Int.reduceLE, decide_eq_true_eq, Bool.or_false, Bool.or_true, Bool.false_or, Bool.true_or, Bool.not_true, Bool.not_false, Bool.not_eq_true, decide_eq_false_iff_not, Bool.not_eq_eq_eq_not, decide_true, decide_false, ↓reduceIte, if_pos, if_neg, Bool.false_eq_true, and_self, and_true, true_and, List.getElem?_cons_zero, List.getElem?_cons_succ, List.set_cons_zero, List.set_cons_succ, List.length_cons, List.length_nil, List.length_map, List.map_cons, List.map_nil, List.replicate, List.cons_append, List.nil_append, List.append_nil, Option.map_some, Option.map_none, Option.bind_some, Option.bind_none, List.append_assoc, Bool.true_and, Bool.and_true, Bool.false_and, Bool.and_false, fl]

theorem heap_take_ok {α : Type} [Inhabited α] {toD : α → D} {lt : α → α → Bool} (hlt : ∀ a b, opLtN (toD a) (toD b) = some (.bl (lt a b))) (hrd : ∀ (m : Mem) a (β : Type) (z : β) (c : Cl) (f : D → Cl → β), rdG z m (toD a) c f = f (toD a) c) {q : Nat} {hs : List α} (hq : at_ μ q = some (.lst (hs.map toD))) (hn : 0 < hs.length) (hl : hs.length ≤ 900000) :
    Ev.heap_take [.ptr q] μ = .ok (toD (gA hs 0)) .cold (μ.set q (some (.lst ((takeH lt hs).map toD)))) := by
  refine fn_wp ?_
  unfold Ev.b_heap_take
  have ql := at_lt hq
  have as9 : ∀ L : D, at_ (μ.set q (some L)) q = some L := fun L => at_set ql
  have ss9 : ∀ L L' : Option D, (μ.set q L).set q L' = μ.set q L' := fun L L' => List.set_set ..
  have a0 := atI_gA (toD := toD) (hs := hs) (i := 0) (by omega) (by omega)
  have r0 := fun m => hrd m (gA hs 0)
  have rz := fun m => hrd m (gA hs (hs.length - 1))
  have gl : (hs.map toD)[(hs.map toD).length - 1]? = some (toD (gA hs (hs.length - 1))) := by
    rw [List.getElem?_map, List.length_map]
    unfold gA
    rw [List.getD_eq_getElem?_getD, show ((hs.length : Int) - 1).toNat = hs.length - 1 by omega, List.getElem?_eq_getElem (by omega)]
    rfl
  rw [List.length_map] at gl
  have dl : (hs.map toD).dropLast = hs.dropLast.map toD := (List.map_dropLast ..).symm
  have ne : ¬ (hs.length : Int) = 0 := by omega
  have ld : hs.dropLast.length = hs.length - 1 := List.length_dropLast
  simp (disch := omega) only [Q.evs, Nat.reduceAdd, Nat.reduceSub, Nat.reduceLeDiff, Nat.reduceLT, Nat.reduceEqDiff, Int.reducePow, Int.reduceToNat, Int.reduceAdd, Int.reduceMul, Int.reduceNeg, Int.reduceSub, Int.reduceLT, Int.reduceLE, decide_eq_true_eq, Bool.or_false, Bool.or_true, Bool.false_or, Bool.true_or, Bool.not_true, Bool.not_false, Bool.not_eq_true, decide_eq_false_iff_not, Bool.not_eq_eq_eq_not, decide_true, decide_false, ↓reduceIte, if_pos, if_neg, Bool.false_eq_true, and_self, and_true, true_and, List.getElem?_cons_zero, List.getElem?_cons_succ, List.set_cons_zero, List.set_cons_succ, List.length_cons, List.length_nil, List.length_map, List.map_cons, List.map_nil, List.replicate, List.cons_append, List.nil_append, List.append_nil, Option.map_some, Option.map_none, Option.bind_some, Option.bind_none, List.append_assoc, Bool.true_and, Bool.and_true, Bool.false_and, Bool.and_false, hq, ne, a0, r0, gl, dl, as9]
  unfold takeH
  by_cases z : hs.dropLast.length = 0
  · have z0 : hs.dropLast = [] := List.eq_nil_of_length_eq_zero z
    rw [if_pos z]
    rw [z0]
    simp (disch := omega) only [Q.evs, Nat.reduceAdd, Nat.reduceSub, Nat.reduceLeDiff, Nat.reduceLT, Nat.reduceEqDiff, Int.reducePow, Int.reduceToNat, Int.reduceAdd, Int.reduceMul, Int.reduceNeg, Int.reduceSub, Int.reduceLT, Int.reduceLE, decide_eq_true_eq, Bool.or_false, Bool.or_true, Bool.false_or, Bool.true_or, Bool.not_true, Bool.not_false, Bool.not_eq_true, decide_eq_false_iff_not, Bool.not_eq_eq_eq_not, decide_true, decide_false, ↓reduceIte, if_pos, if_neg, Bool.false_eq_true, and_self, and_true, true_and, List.getElem?_cons_zero, List.getElem?_cons_succ, List.set_cons_zero, List.set_cons_succ, List.length_cons, List.length_nil, List.length_map, List.map_cons, List.map_nil, List.replicate, List.cons_append, List.nil_append, List.append_nil, Option.map_some, Option.map_none, Option.bind_some, Option.bind_none, List.append_assoc, Bool.true_and, Bool.and_true, Bool.false_and, Bool.and_false, as9]
  · rw [if_neg z]
    have zn : ((hs.dropLast.length : Int)) > 0 := by omega
    have x0 : ixN hs.dropLast.length 0 = some 0 := ixN_of (by omega) (by omega)
    have ms : ((hs.dropLast.map toD).set 0 (toD (gA hs (hs.length - 1)))) = (hs.dropLast.set 0 (gA hs (hs.length - 1))).map toD := (List.map_set ..).symm
    obtain ⟨h0, hh0⟩ : ∃ h0, hs.dropLast.set 0 (gA hs (hs.length - 1)) = h0 := ⟨_, rfl⟩
    have l0 : h0.length = hs.length - 1 := by rw [← hh0, List.length_set, ld]
    rw [hh0] at ms
    have lb := fun {xs : List α} (h : xs.length = hs.length - 1) {i : Int} (i0 : 0 ≤ i) (i1 : i < xs.length) => least_below_ok (μ := μ.set q (some (.lst (xs.map toD)))) hlt hrd (as9 _) i0 i1 (by omega)
    have lb0 := lb l0 (i := 0) (by omega) (by omega)
    simp (disch := omega) only [Q.evs, Nat.reduceAdd, Nat.reduceSub, Nat.reduceLeDiff, Nat.reduceLT, Nat.reduceEqDiff, Int.reducePow, Int.reduceToNat, Int.reduceAdd, Int.reduceMul, Int.reduceNeg, Int.reduceSub, Int.reduceLT, Int.reduceLE, decide_eq_true_eq, Bool.or_false, Bool.or_true, Bool.false_or, Bool.true_or, Bool.not_true, Bool.not_false, Bool.not_eq_true, decide_eq_false_iff_not, Bool.not_eq_eq_eq_not, decide_true, decide_false, ↓reduceIte, if_pos, if_neg, Bool.false_eq_true, and_self, and_true, true_and, List.getElem?_cons_zero, List.getElem?_cons_succ, List.set_cons_zero, List.set_cons_succ, List.length_cons, List.length_nil, List.length_map, List.map_cons, List.map_nil, List.replicate, List.cons_append, List.nil_append, List.append_nil, Option.map_some, Option.map_none, Option.bind_some, Option.bind_none, List.append_assoc, Bool.true_and, Bool.and_true, Bool.false_and, Bool.and_false, as9, ss9, zn, rz, x0, ms, lb0]
    have b0 := lbH_or (lt := lt) (hs := h0) (i := 0) (by omega) (by omega)
    have key := while_pure (c := dnC) (f := dnF lt) (rank := fun s => if s.2.2 = s.2.1 then 0 else (s.1.length : Nat) - s.2.1.toNat) (t := tst (op2 opNe (var 4) (var 3)))
      (b := seq (sset 5 (idx (var 0) (var 4))) (seq (sputP (var 0) (var 4) (idx (var 0) (var 3))) (seq (sputP (var 0) (var 3) (var 5)) (seq (sset 3 (var 4)) (sset 4 (call 2 Ev.least_below (acons (var 0) (acons (var 3) anil))))))))
      (fun s e => (s.1.length = hs.length - 1 ∧ (0 ≤ s.2.1 ∧ s.2.1 < s.1.length) ∧ (0 ≤ s.2.2 ∧ s.2.2 < s.1.length) ∧ (s.2.2 = s.2.1 ∨ s.2.1 < s.2.2)) ∧ ∃ s2 s5, e = ⟨[.cold (.ptr q), .cold (toD (gA hs 0)), s2, .cold (.int s.2.1), .cold (.int s.2.2), s5], μ.set q (some (.lst (s.1.map toD)))⟩)
      (by
        rintro ⟨xs, i, l⟩ e ⟨⟨h1, h2, h3, h4⟩, s2, s5, rfl⟩
        unfold dnC
        simp (disch := omega) only [Q.evs, Nat.reduceAdd, Nat.reduceSub, Nat.reduceLeDiff, Nat.reduceLT, Nat.reduceEqDiff, Int.reducePow, Int.reduceToNat, Int.reduceAdd, Int.reduceMul, Int.reduceNeg, Int.reduceSub, Int.reduceLT, Int.reduceLE, decide_eq_true_eq, Bool.or_false, Bool.or_true, Bool.false_or, Bool.true_or, Bool.not_true, Bool.not_false, Bool.not_eq_true, decide_eq_false_iff_not, Bool.not_eq_eq_eq_not, decide_true, decide_false, ↓reduceIte, if_pos, if_neg, Bool.false_eq_true, and_self, and_true, true_and, List.getElem?_cons_zero, List.getElem?_cons_succ, List.set_cons_zero, List.set_cons_succ, List.length_cons, List.length_nil, List.length_map, List.map_cons, List.map_nil, List.replicate, List.cons_append, List.nil_append, List.append_nil, Option.map_some, Option.map_none, Option.bind_some, Option.bind_none, List.append_assoc, Bool.true_and, Bool.and_true, Bool.false_and, Bool.and_false]
        simp)
      (by
        rintro ⟨xs, i, l⟩ e ⟨⟨h1, h2, h3, h4⟩, s2, s5, rfl⟩ hc
        have h1 : xs.length = hs.length - 1 := h1
        have h2 : 0 ≤ i ∧ i < xs.length := h2
        have h3 : 0 ≤ l ∧ l < xs.length := h3
        have hc : l ≠ i := of_decide_eq_true hc
        have h4 : i < l := by
          rcases h4 with z | z
          · exact absurd z hc
          · exact z
        have a1 := atI_gA (toD := toD) (hs := xs) h3.1 h3.2
        have a2 := atI_gA (toD := toD) (hs := xs) h2.1 h2.2
        have r1 := fun m => hrd m (gA xs l)
        have r2 := fun m => hrd m (gA xs i)
        have x1 : ixN xs.length l = some l.toNat := ixN_of h3.1 h3.2
        have x2 : ixN xs.length i = some i.toNat := ixN_of h2.1 h2.2
        have m1 : ((xs.map toD).set l.toNat (toD (gA xs i))) = (xs.set l.toNat (gA xs i)).map toD := (List.map_set ..).symm
        have m2 : (((xs.set l.toNat (gA xs i)).map toD).set i.toNat (toD (gA xs l))) = (swp xs l i).map toD := (List.map_set ..).symm
        have l9 : (xs.set l.toNat (gA xs i)).length = xs.length := List.length_set ..
        have sl : (swp xs l i).length = xs.length := swp_len ..
        have lb1 := lb (xs := swp xs l i) (by omega) (i := l) h3.1 (by omega)
        have bo := lbH_or (lt := lt) (hs := swp xs l i) (i := l) h3.1 (by omega)
        refine ⟨⟨_, ?_, ⟨⟨by show (swp xs l i).length = _; omega, by show 0 ≤ l ∧ l < ((swp xs l i).length : Int); omega, by show 0 ≤ lbH lt (swp xs l i) l ∧ lbH lt (swp xs l i) l < ((swp xs l i).length : Int); exact bo.1, bo.2⟩, s2, .cold (toD (gA xs l)), rfl⟩⟩, ?_⟩
        · simp (disch := omega) only [Q.evs, Nat.reduceAdd, Nat.reduceSub, Nat.reduceLeDiff, Nat.reduceLT, Nat.reduceEqDiff, Int.reducePow, Int.reduceToNat, Int.reduceAdd, Int.reduceMul, Int.reduceNeg, Int.reduceSub, Int.reduceLT, Int.reduceLE, decide_eq_true_eq, Bool.or_false, Bool.or_true, Bool.false_or, Bool.true_or, Bool.not_true, Bool.not_false, Bool.not_eq_true, decide_eq_false_iff_not, Bool.not_eq_eq_eq_not, decide_true, decide_false, ↓reduceIte, if_pos, if_neg, Bool.false_eq_true, and_self, and_true, true_and, List.getElem?_cons_zero, List.getElem?_cons_succ, List.set_cons_zero, List.set_cons_succ, List.length_cons, List.length_nil, List.length_map, List.map_cons, List.map_nil, List.replicate, List.cons_append, List.nil_append, List.append_nil, Option.map_some, Option.map_none, Option.bind_some, Option.bind_none, List.append_assoc, Bool.true_and, Bool.and_true, Bool.false_and, Bool.and_false, as9, ss9, a1, a2, r1, r2, x1, x2, m1, m2, l9, lb1]
          rfl
        · show (if lbH lt (swp xs l i) l = l then 0 else (swp xs l i).length - l.toNat) < (if l = i then 0 else xs.length - i.toNat)
          rw [if_neg hc]
          split <;> omega) 1000000 (hs.length + 1) (h0, 0, lbH lt h0 0) ⟨[.cold (.ptr q), .cold (toD (gA hs 0)), .cold (toD (gA hs (hs.length - 1))), .cold (.int 0), .cold (.int (lbH lt h0 0)), .no], μ.set q (some (.lst (h0.map toD)))⟩ ⟨⟨l0, by show (0 : Int) ≤ 0 ∧ (0 : Int) < (h0.length : Int); omega, b0.1, b0.2⟩, .cold (toD (gA hs (hs.length - 1))), .no, rfl⟩ (by show (if lbH lt h0 0 = 0 then 0 else h0.length - (0 : Int).toNat) ≤ hs.length + 1; split <;> omega) (by omega)
    obtain ⟨e', k1, ⟨_, s2, s5, rfl⟩⟩ := key
    rw [hh0, k1]
    simp (disch := omega) only [Q.evs, Nat.reduceAdd, Nat.reduceSub, Nat.reduceLeDiff, Nat.reduceLT, Nat.reduceEqDiff, Int.reducePow, Int.reduceToNat, Int.reduceAdd, Int.reduceMul, Int.reduceNeg, Int.reduceSub, Int.reduceLT, Int.reduceLE, decide_eq_true_eq, Bool.or_false, Bool.or_true, Bool.false_or, Bool.true_or, Bool.not_true, Bool.not_false, Bool.not_eq_true, decide_eq_false_iff_not, Bool.not_eq_eq_eq_not, decide_true, decide_false, ↓reduceIte, if_pos, if_neg, Bool.false_eq_true, and_self, and_true, true_and, List.getElem?_cons_zero, List.getElem?_cons_succ, List.set_cons_zero, List.set_cons_succ, List.length_cons, List.length_nil, List.length_map, List.map_cons, List.map_nil, List.replicate, List.cons_append, List.nil_append, List.append_nil, Option.map_some, Option.map_none, Option.bind_some, Option.bind_none, List.append_assoc, Bool.true_and, Bool.and_true, Bool.false_and, Bool.and_false]

theorem swp_perm {α : Type} [Inhabited α] {hs : List α} {a b : Int} (a0 : 0 ≤ a) (a1 : a < hs.length) (b0 : 0 ≤ b) (b1 : b < hs.length) : (swp hs a b).Perm hs := by
  have ha : a.toNat < hs.length := by omega
  have hb : b.toNat < hs.length := by omega
  have e1 : gA hs a = hs[a.toNat] := by unfold gA; rw [List.getD_eq_getElem?_getD, List.getElem?_eq_getElem ha]; rfl
  have e2 : gA hs b = hs[b.toNat] := by unfold gA; rw [List.getD_eq_getElem?_getD, List.getElem?_eq_getElem hb]; rfl
  unfold swp
  rw [e1, e2]
  exact List.set_set_perm ha hb
theorem putH_perm {α : Type} [Inhabited α] (lt : α → α → Bool) (hs : List α) (x : α) : (putH lt hs x).Perm (hs ++ [x]) := by
  have := loopS_inv (c := upC lt) (f := upF) (J := fun s => (s.1.Perm (hs ++ [x])) ∧ 0 ≤ s.2 ∧ s.2 ≤ (hs.length : Int)) (fun s ⟨h1, h2, h3⟩ hc => by
    have q0 : 0 < s.2 := by
      unfold upC at hc
      rw [Bool.and_eq_true] at hc
      exact of_decide_eq_true hc.1
    have l1 := h1.length_eq
    rw [List.length_append] at l1
    have l2 : s.1.length = hs.length + 1 := l1
    refine ⟨(swp_perm (by omega) (by omega) h2 (by omega)).trans h1, ?_, ?_⟩
    · show 0 ≤ (s.2 - 1) / 2; omega
    · show (s.2 - 1) / 2 ≤ (hs.length : Int); omega) (hs.length + 1) (hs ++ [x], (hs.length : Int)) ⟨.refl _, by show (0 : Int) ≤ hs.length; omega, Int.le_refl _⟩
  exact this.1
theorem takeH_perm {α : Type} [Inhabited α] (lt : α → α → Bool) {hs : List α} (hn : 0 < hs.length) : (gA hs 0 :: takeH lt hs).Perm hs := by
  unfold takeH
  obtain ⟨ds, z, rfl⟩ : ∃ ds z, hs = ds ++ [z] := by
    rcases List.eq_nil_or_concat hs with rfl | ⟨ds, z, h⟩
    · simp at hn
    · exact ⟨ds, z, by rw [h, List.concat_eq_append]⟩
  have e1 : (ds ++ [z]).dropLast = ds := by simp
  have e2 : gA (ds ++ [z]) (((ds ++ [z]).length : Int) - 1) = z := by
    unfold gA
    rw [List.length_append, show (((ds.length + [z].length : Nat) : Int) - 1).toNat = ds.length by simp, List.getD_eq_getElem?_getD, List.getElem?_append_right (Nat.le_refl _)]
    simp
  show (gA (ds ++ [z]) 0 :: if (ds ++ [z]).dropLast.length = 0 then [] else _).Perm (ds ++ [z])
  rw [e1, e2]
  cases ds with
  | nil => exact .refl _
  | cons y ds =>
    rw [if_neg (by simp)]
    have e3 : gA (y :: ds ++ [z]) 0 = y := rfl
    have e4 : (y :: ds).set 0 z = z :: ds := rfl
    rw [e3, e4]
    have b0 := lbH_or (lt := lt) (hs := z :: ds) (i := 0) (by omega) (by rw [List.length_cons]; omega)
    have p := loopS_inv (c := dnC) (f := dnF lt) (J := fun s => s.1.Perm (z :: ds) ∧ (0 ≤ s.2.1 ∧ s.2.1 < s.1.length) ∧ 0 ≤ s.2.2 ∧ s.2.2 < s.1.length) (fun s ⟨h1, h2, h3⟩ hc => by
      have sl : (swp s.1 s.2.2 s.2.1).length = s.1.length := swp_len ..
      have bo := lbH_or (lt := lt) (hs := swp s.1 s.2.2 s.2.1) (i := s.2.2) h3.1 (by omega)
      refine ⟨(swp_perm h3.1 h3.2 h2.1 h2.2).trans h1, ?_, bo.1⟩
      show 0 ≤ s.2.2 ∧ s.2.2 < ((swp s.1 s.2.2 s.2.1).length : Int)
      omega) ((y :: ds ++ [z]).length + 1) (z :: ds, 0, lbH lt (z :: ds) 0) ⟨.refl _, ⟨Int.le_refl _, by show (0 : Int) < ((z :: ds).length : Int); rw [List.length_cons]; omega⟩, b0.1⟩
    refine (p.1.cons y).trans ?_
    show (y :: z :: ds).Perm (y :: (ds ++ [z]))
    exact (List.perm_append_singleton z ds).symm.cons y

/-! prefixes of orders -/

/-! heaps in order -/
section
variable {α : Type} [Inhabited α]
/-- a total order, by what is less -/
structure TotL (lt : α → α → Bool) : Prop where
  tot : ∀ x y, lt x y = true → lt y x = false
  tr : ∀ x y z, lt y x = false → lt z y = false → lt z x = false
theorem gA_swp {hs : List α} {a b : Int} (a0 : 0 ≤ a) (a1 : a < hs.length) (b0 : 0 ≤ b) (b1 : b < hs.length) {i : Int} (i0 : 0 ≤ i) : gA (swp hs a b) i = if i = b then gA hs a else if i = a then gA hs b else gA hs i := by
  unfold swp gA
  simp only [List.getD_eq_getElem?_getD]
  rw [List.getElem?_set]
  by_cases q : i = b
  · subst q
    rw [if_pos rfl, if_pos rfl, if_pos (by rw [List.length_set]; omega)]
    rfl
  · rw [if_neg (by omega), if_neg q, List.getElem?_set]
    by_cases q2 : i = a
    · subst q2
      rw [if_pos rfl, if_pos rfl, if_pos (by omega)]
      rfl
    · rw [if_neg (by omega), if_neg q2]
def HOrd (lt : α → α → Bool) (hs : List α) : Prop := ∀ j : Int, 0 < j → j < hs.length → lt (gA hs j) (gA hs ((j - 1) / 2)) = false
/-- in order but for what comes into i -/
structure UpOk (lt : α → α → Bool) (hs : List α) (i : Int) : Prop where
  i0 : 0 ≤ i
  i1 : i < hs.length
  e : ∀ j : Int, j ≠ i → 0 < j → j < hs.length → lt (gA hs j) (gA hs ((j - 1) / 2)) = false
  g : 0 < i → ∀ j : Int, (j - 1) / 2 = i → 0 < j → j < hs.length → lt (gA hs j) (gA hs ((i - 1) / 2)) = false
theorem up_step {lt : α → α → Bool} (T : TotL lt) {hs : List α} {i : Int} (h : UpOk lt hs i) (h0 : 0 < i) (hl : lt (gA hs i) (gA hs ((i - 1) / 2)) = true) : UpOk lt (swp hs ((i - 1) / 2) i) ((i - 1) / 2) := by
  have i1 := h.i1
  have ln := swp_len hs ((i - 1) / 2) i
  have g := fun (j : Int) (j0 : 0 ≤ j) => gA_swp (hs := hs) (a := (i - 1) / 2) (b := i) (by omega) (by omega) (by omega) i1 j0
  have asy := T.tot _ _ hl
  refine ⟨by omega, by omega, fun j hj j0 j1 => ?_, fun p0 j hj j0 j1 => ?_⟩
  · rw [ln] at j1
    rw [g j (by omega), g ((j - 1) / 2) (by omega)]
    by_cases q : j = i
    · subst q
      rw [if_pos rfl, if_neg (by omega), if_pos rfl]
      exact asy
    · rw [if_neg q, if_neg hj]
      by_cases q2 : (j - 1) / 2 = i
      · rw [if_pos q2]
        exact h.g h0 j q2 j0 j1
      · rw [if_neg q2]
        by_cases q3 : (j - 1) / 2 = (i - 1) / 2
        · rw [if_pos q3]
          have e1 := h.e j q j0 j1
          rw [q3] at e1
          exact T.tr _ _ _ asy e1
        · rw [if_neg q3]
          exact h.e j q j0 j1
  · rw [ln] at j1
    rw [g j (by omega), g (((i - 1) / 2 - 1) / 2) (by omega), if_neg (show ¬ ((i - 1) / 2 - 1) / 2 = i by omega), if_neg (show ¬ ((i - 1) / 2 - 1) / 2 = (i - 1) / 2 by omega)]
    have e0 := h.e ((i - 1) / 2) (by omega) p0 (by omega)
    by_cases q : j = i
    · rw [if_pos q]; exact e0
    · rw [if_neg q, if_neg (by omega)]
      have e1 := h.e j q j0 j1
      rw [hj] at e1
      exact T.tr _ _ _ e0 e1
theorem gA_app {hs : List α} {x : α} {i : Int} (i0 : 0 ≤ i) (i1 : i < hs.length) : gA (hs ++ [x]) i = gA hs i := by
  unfold gA
  rw [List.getD_eq_getElem?_getD, List.getD_eq_getElem?_getD, List.getElem?_append_left (by omega)]
theorem putH_ord {lt : α → α → Bool} (T : TotL lt) {hs : List α} (h : HOrd lt hs) (x : α) : HOrd lt (putH lt hs x) := by
  have J0 : UpOk lt (hs ++ [x]) hs.length := by
    refine ⟨by omega, by rw [List.length_append]; show (hs.length : Int) < ((hs.length + 1 : Nat) : Int); omega, fun j hj j0 j1 => ?_, fun p0 j hj j0 j1 => ?_⟩ <;> rw [List.length_append] at j1 <;> have j1 : j < ((hs.length + 1 : Nat) : Int) := j1
    · rw [gA_app (by omega) (by omega), gA_app (by omega) (by omega)]
      exact h j j0 (by omega)
    · omega
  have st : ∀ s : List α × Int, UpOk lt s.1 s.2 → upC lt s = true → UpOk lt (upF s).1 (upF s).2 := fun s J hc => by
    unfold upC at hc
    rw [Bool.and_eq_true, decide_eq_true_eq] at hc
    exact up_step T J hc.1 hc.2
  have J := loopS_inv (c := upC lt) (f := upF) (J := fun s => UpOk lt s.1 s.2) st (hs.length + 1) (hs ++ [x], (hs.length : Int)) J0
  have E := loopS_end (c := upC lt) (f := upF) (J := fun s => UpOk lt s.1 s.2) (rank := fun s => s.2.toNat) (fun s J hc => ⟨st s J hc, by
    unfold upC at hc
    rw [Bool.and_eq_true, decide_eq_true_eq] at hc
    show ((s.2 - 1) / 2).toNat < s.2.toNat
    omega⟩) (hs.length + 1) (hs ++ [x], (hs.length : Int)) J0 (by show ((hs.length : Nat) : Int).toNat ≤ _; omega)
  unfold putH
  generalize loopS (upC lt) upF (hs.length + 1) (hs ++ [x], (hs.length : Int)) = s at *
  intro j j0 j1
  by_cases q : j = s.2
  · unfold upC at E
    rw [← q, Bool.and_eq_false_iff, decide_eq_false_iff_not] at E
    rcases E with z | z
    · omega
    · exact z
  · exact J.e j q j0 j1
theorem lbS_le {lt : α → α → Bool} (T : TotL lt) (irr : ∀ x, lt x x = false) (hs : List α) (l b : Int) : lt (gA hs l) (gA hs (lbS lt hs l b)) = false ∧ (b < hs.length → lt (gA hs b) (gA hs (lbS lt hs l b)) = false) := by
  unfold lbS
  by_cases q : b < hs.length ∧ lt (gA hs b) (gA hs l) = true
  · rw [if_pos q]
    exact ⟨T.tot _ _ q.2, fun _ => irr _⟩
  · rw [if_neg q]
    refine ⟨irr _, fun h => ?_⟩
    cases z : lt (gA hs b) (gA hs l) with
    | false => rfl
    | true => exact absurd ⟨h, z⟩ q
theorem lbH_le {lt : α → α → Bool} (T : TotL lt) (irr : ∀ x, lt x x = false) (hs : List α) (i : Int) : lt (gA hs i) (gA hs (lbH lt hs i)) = false ∧ (2 * i + 1 < hs.length → lt (gA hs (2 * i + 1)) (gA hs (lbH lt hs i)) = false) ∧ (2 * i + 2 < hs.length → lt (gA hs (2 * i + 2)) (gA hs (lbH lt hs i)) = false) := by
  have a := lbS_le T irr hs i (2 * i + 1)
  have b := lbS_le T irr hs (lbS lt hs i (2 * i + 1)) (2 * i + 2)
  exact ⟨T.tr _ _ _ b.1 a.1, fun h => T.tr _ _ _ b.1 (a.2 h), b.2⟩
theorem lbH_one (lt : α → α → Bool) (hs : List α) (i : Int) : lbH lt hs i = i ∨ (lbH lt hs i = 2 * i + 1 ∧ 2 * i + 1 < hs.length) ∨ (lbH lt hs i = 2 * i + 2 ∧ 2 * i + 2 < hs.length) := by
  unfold lbH
  rcases lbS_or lt hs (lbS lt hs i (2 * i + 1)) (2 * i + 2) with b | ⟨b, b2⟩
  · rw [b]
    rcases lbS_or lt hs i (2 * i + 1) with a | ⟨a, a2⟩
    · exact .inl a
    · exact .inr (.inl ⟨a, a2⟩)
  · exact .inr (.inr ⟨b, b2⟩)
/-- in order but for what goes out of i -/
structure DnOk (lt : α → α → Bool) (hs : List α) (i : Int) : Prop where
  i0 : 0 ≤ i
  i1 : i < hs.length
  e : ∀ j : Int, (j - 1) / 2 ≠ i → 0 < j → j < hs.length → lt (gA hs j) (gA hs ((j - 1) / 2)) = false
  g : 0 < i → ∀ j : Int, (j - 1) / 2 = i → 0 < j → j < hs.length → lt (gA hs j) (gA hs ((i - 1) / 2)) = false
theorem dn_step {lt : α → α → Bool} (T : TotL lt) (irr : ∀ x, lt x x = false) {hs : List α} {i : Int} (h : DnOk lt hs i) (hl : lbH lt hs i ≠ i) : DnOk lt (swp hs (lbH lt hs i) i) (lbH lt hs i) := by
  have i0 := h.i0
  have i1 := h.i1
  have le := lbH_le T irr hs i
  have on := lbH_one lt hs i
  obtain ⟨l, hL⟩ : ∃ l, lbH lt hs i = l := ⟨_, rfl⟩
  rw [hL] at hl le on ⊢
  have lc : (l - 1) / 2 = i ∧ 0 < l ∧ l < hs.length := by
    rcases on with z | ⟨z, z2⟩ | ⟨z, z2⟩
    · exact absurd z hl
    · omega
    · omega
  have ln := swp_len hs l i
  have g := fun (j : Int) (j0 : 0 ≤ j) => gA_swp (hs := hs) (a := l) (b := i) (by omega) lc.2.2 i0 i1 j0
  refine ⟨by omega, by omega, fun j hj j0 j1 => ?_, fun p0 j hj j0 j1 => ?_⟩
  · rw [ln] at j1
    rw [g j (by omega), g ((j - 1) / 2) (by omega)]
    by_cases q : (j - 1) / 2 = i
    · rw [if_pos q, if_neg (show ¬ j = i by omega)]
      by_cases q2 : j = l
      · rw [if_pos q2]; exact le.1
      · rw [if_neg q2]
        have : j = 2 * i + 1 ∨ j = 2 * i + 2 := by omega
        rcases this with z | z <;> subst z
        · exact le.2.1 j1
        · exact le.2.2 j1
    · rw [if_neg q, if_neg hj]
      by_cases q2 : j = i
      · subst q2
        rw [if_pos rfl]
        exact h.g j0 l lc.1 lc.2.1 lc.2.2
      · rw [if_neg q2, if_neg (show ¬ j = l by omega)]
        exact h.e j q j0 j1
  · rw [ln] at j1
    rw [g j (by omega), g ((l - 1) / 2) (by omega), if_pos lc.1, if_neg (show ¬ j = i by omega), if_neg (show ¬ j = l by omega)]
    have := h.e j (by omega) j0 j1
    rw [hj] at this
    exact this
theorem takeH_ord {lt : α → α → Bool} (T : TotL lt) (irr : ∀ x, lt x x = false) {hs : List α} (h : HOrd lt hs) : HOrd lt (takeH lt hs) := by
  unfold takeH
  by_cases z : hs.dropLast.length = 0
  · show HOrd lt (if hs.dropLast.length = 0 then [] else _)
    rw [if_pos z]
    intro j j0 j1
    simp at j1
    omega
  · show HOrd lt (if hs.dropLast.length = 0 then [] else _)
    rw [if_neg z]
    have ld : hs.dropLast.length = hs.length - 1 := List.length_dropLast
    obtain ⟨h0, hh0⟩ : ∃ h0, hs.dropLast.set 0 (gA hs (hs.length - 1)) = h0 := ⟨_, rfl⟩
    have l0 : h0.length = hs.length - 1 := by rw [← hh0, List.length_set, ld]
    have ge : ∀ j : Int, 0 < j → j < h0.length → gA h0 j = gA hs j := fun j j0 j1 => by
      unfold gA
      rw [List.getD_eq_getElem?_getD, List.getD_eq_getElem?_getD, ← hh0, List.getElem?_set, if_neg (by omega), List.dropLast_eq_take, List.getElem?_take_of_lt (by omega)]
    have J0 : DnOk lt h0 0 := ⟨Int.le_refl _, by omega, fun j hj j0 j1 => by
      rw [ge j j0 j1, ge ((j - 1) / 2) (by omega) (by omega)]
      exact h j j0 (by omega), fun p0 => by omega⟩
    rw [hh0]
    have st : ∀ s : List α × Int × Int, (DnOk lt s.1 s.2.1 ∧ s.2.2 = lbH lt s.1 s.2.1) → dnC s = true → (DnOk lt (dnF lt s).1 (dnF lt s).2.1 ∧ (dnF lt s).2.2 = lbH lt (dnF lt s).1 (dnF lt s).2.1) := fun s J hc => by
      have hc : s.2.2 ≠ s.2.1 := of_decide_eq_true hc
      have d := dn_step T irr J.1 (by rw [← J.2]; exact hc)
      rw [← J.2] at d
      exact ⟨d, rfl⟩
    have rk : ∀ s : List α × Int × Int, (DnOk lt s.1 s.2.1 ∧ s.2.2 = lbH lt s.1 s.2.1) → dnC s = true → ((dnF lt s).1.length - (dnF lt s).2.1.toNat) < (s.1.length - s.2.1.toNat) := fun s J hc => by
      have hc : s.2.2 ≠ s.2.1 := of_decide_eq_true hc
      have b := lbH_or (lt := lt) (hs := s.1) J.1.i0 J.1.i1
      rw [← J.2] at b
      have i1 := J.1.i1
      have i0 := J.1.i0
      show (swp s.1 s.2.2 s.2.1).length - s.2.2.toNat < s.1.length - s.2.1.toNat
      rw [swp_len]
      omega
    have J := loopS_inv (c := dnC) (f := dnF lt) (J := fun s => DnOk lt s.1 s.2.1 ∧ s.2.2 = lbH lt s.1 s.2.1) st (hs.length + 1) (h0, 0, lbH lt h0 0) ⟨J0, rfl⟩
    have E := loopS_end (c := dnC) (f := dnF lt) (J := fun s => DnOk lt s.1 s.2.1 ∧ s.2.2 = lbH lt s.1 s.2.1) (rank := fun s => s.1.length - s.2.1.toNat) (fun s J hc => ⟨st s J hc, rk s J hc⟩) (hs.length + 1) (h0, 0, lbH lt h0 0) ⟨J0, rfl⟩ (by show h0.length - (0 : Int).toNat ≤ _; omega)
    generalize loopS dnC (dnF lt) (hs.length + 1) (h0, 0, lbH lt h0 0) = s at *
    have E : s.2.2 = s.2.1 := Classical.byContradiction fun z => by
      have : dnC s = true := decide_eq_true z
      rw [this] at E; cases E
    have le := lbH_le T irr s.1 s.2.1
    rw [← J.2, E] at le
    intro j j0 j1
    by_cases q : (j - 1) / 2 = s.2.1
    · rw [q]
      have : j = 2 * s.2.1 + 1 ∨ j = 2 * s.2.1 + 2 := by have := J.1.i0; omega
      rcases this with z | z <;> rw [z] at j1 ⊢
      · exact le.2.1 j1
      · exact le.2.2 j1
    · exact J.1.e j q j0 j1
/-- the first is the least -/
theorem ord_least {lt : α → α → Bool} (T : TotL lt) (irr : ∀ x, lt x x = false) {hs : List α} (h : HOrd lt hs) : ∀ (n : Nat) (j : Int), 0 ≤ j → j < hs.length → j.toNat ≤ n → lt (gA hs j) (gA hs 0) = false
  | 0, j, j0, j1, hn => by
    have : j = 0 := by omega
    subst this
    exact irr _
  | n + 1, j, j0, j1, hn => by
    by_cases q : j = 0
    · subst q; exact irr _
    · exact T.tr _ _ _ (ord_least T irr h n ((j - 1) / 2) (by omega) (by omega) (by omega)) (h j (by omega) j1)
end

/-! strict orders, one behind the other -/
structure LinL {α : Type} (lt : α → α → Bool) : Prop where
  irr : ∀ x, lt x x = false
  tr : ∀ x y z, lt x y = true → lt y z = true → lt x z = true
  tri : ∀ x y, lt x y = false → lt y x = false → x = y
theorem LinL.tot {α : Type} [Inhabited α] {lt : α → α → Bool} (h : LinL lt) : TotL lt where
  tot := fun x y a => by
    cases q : lt y x with
    | false => rfl
    | true =>
      have := h.tr _ _ _ a q
      rw [h.irr] at this; cases this
  tr := fun x y z a b => by
    cases q : lt z x with
    | false => rfl
    | true =>
      cases q2 : lt x y with
      | true =>
        have := h.tr _ _ _ q q2
        rw [b] at this; cases this
      | false =>
        have e := h.tri _ _ q2 a
        subst e
        rw [b] at q; cases q
def lexP {α β : Type} [DecidableEq α] (l1 : α → α → Bool) (l2 : β → β → Bool) (x y : α × β) : Bool := if x.1 = y.1 then l2 x.2 y.2 else l1 x.1 y.1
theorem lexP_lin {α β : Type} [DecidableEq α] {l1 : α → α → Bool} {l2 : β → β → Bool} (h1 : LinL l1) (h2 : LinL l2) : LinL (lexP l1 l2) where
  irr := fun x => by unfold lexP; rw [if_pos rfl]; exact h2.irr _
  tr := fun x y z a b => by
    unfold lexP at a b ⊢
    by_cases e1 : x.1 = y.1
    · rw [if_pos e1] at a
      by_cases e2 : y.1 = z.1
      · rw [if_pos e2] at b
        rw [if_pos (e1.trans e2)]
        exact h2.tr _ _ _ a b
      · rw [if_neg e2] at b
        rw [if_neg (e1 ▸ e2), e1]; exact b
    · rw [if_neg e1] at a
      by_cases e2 : y.1 = z.1
      · rw [if_neg (e2 ▸ e1), ← e2]; exact a
      · rw [if_neg e2] at b
        have c := h1.tr _ _ _ a b
        by_cases e3 : x.1 = z.1
        · rw [e3, h1.irr] at c; cases c
        · rw [if_neg e3]; exact c
  tri := fun x y a b => by
    unfold lexP at a b
    by_cases e1 : x.1 = y.1
    · rw [if_pos e1] at a
      rw [if_pos e1.symm] at b
      exact Prod.ext e1 (h2.tri _ _ a b)
    · rw [if_neg e1] at a
      rw [if_neg (fun z => e1 z.symm)] at b
      exact absurd (h1.tri _ _ a b) e1
def intL (a b : Int) : Bool := decide (a < b)
theorem intL_lin : LinL intL where
  irr := fun x => decide_eq_false (by omega)
  tr := fun x y z a b => by
    have a := of_decide_eq_true a
    have b := of_decide_eq_true b
    exact decide_eq_true (by omega)
  tri := fun x y a b => by
    have a := of_decide_eq_false a
    have b := of_decide_eq_false b
    omega
theorem lexLt_lin : LinL lexLt := ⟨lexLt_irrefl, lexLt_trans, lexLt_tri⟩
def minA {α : Type} (lt : α → α → Bool) (x : α) (ys : List α) : α := ys.foldl (fun a y => if lt y a = true then y else a) x
theorem minA_spec {α : Type} [Inhabited α] {lt : α → α → Bool} (L : LinL lt) : ∀ (ys : List α) (x : α), minA lt x ys ∈ x :: ys ∧ ∀ y ∈ x :: ys, lt y (minA lt x ys) = false := by
  have T := L.tot
  intro ys
  induction ys with
  | nil => intro x; exact ⟨List.mem_cons_self, fun y hy => by rw [List.mem_singleton.mp hy]; exact L.irr _⟩
  | cons y ys ih =>
    intro x
    have e : minA lt x (y :: ys) = minA lt (if lt y x = true then y else x) ys := rfl
    rw [e]
    by_cases q : lt y x = true
    · rw [if_pos q]
      obtain ⟨a, b⟩ := ih y
      refine ⟨List.mem_cons_of_mem _ a, fun z hz => ?_⟩
      rcases List.mem_cons.mp hz with rfl | hz
      · exact T.tr _ _ _ (b y List.mem_cons_self) (T.tot _ _ q)
      · exact b z hz
    · rw [if_neg q]
      have q : lt y x = false := Bool.eq_false_iff.mpr q
      obtain ⟨a, b⟩ := ih x
      refine ⟨?_, fun z hz => ?_⟩
      · rcases List.mem_cons.mp a with h | h
        · rw [h]; exact List.mem_cons_self
        · exact List.mem_cons_of_mem _ (List.mem_cons_of_mem _ h)
      · rcases List.mem_cons.mp hz with rfl | hz
        · exact b z List.mem_cons_self
        · rcases List.mem_cons.mp hz with rfl | hz
          · exact T.tr _ _ _ (b x List.mem_cons_self) q
          · exact b z (List.mem_cons_of_mem _ hz)
theorem gA_mem {α : Type} [Inhabited α] {hs : List α} {i : Int} (i0 : 0 ≤ i) (i1 : i < hs.length) : gA hs i ∈ hs := by
  unfold gA
  rw [List.getD_eq_getElem?_getD, List.getElem?_eq_getElem (by omega)]
  exact List.getElem_mem _
theorem ord_head {α : Type} [Inhabited α] {lt : α → α → Bool} (L : LinL lt) {hs : List α} (h : HOrd lt hs) {y : α} (hy : y ∈ hs) : lt y (gA hs 0) = false := by
  obtain ⟨j, hj, e⟩ := List.getElem_of_mem hy
  have := ord_least L.tot L.irr h j (j : Int) (by omega) (by omega) (by omega)
  unfold gA at this ⊢
  rw [List.getD_eq_getElem?_getD, show ((j : Int)).toNat = j by omega, List.getElem?_eq_getElem hj, Option.getD_some, e] at this
  exact this
theorem head_min {α : Type} [Inhabited α] {lt : α → α → Bool} (L : LinL lt) {hs ds : List α} {d : α} (h : HOrd lt hs) (p : hs.Perm (d :: ds)) : gA hs 0 = minA lt d ds := by
  have ln := p.length_eq
  rw [List.length_cons] at ln
  obtain ⟨a, b⟩ := minA_spec L ds d
  exact L.tri _ _ (b _ (p.mem_iff.mp (gA_mem (Int.le_refl _) (by omega)))) (ord_head L h (p.mem_iff.mpr a))

end Ma

set_option linter.all false
set_option maxRecDepth 100000
set_option maxHeartbeats 4000000
namespace Ma
open Q
variable {μ : Mem}
abbrev Th := Int × List Int × Int
def thD (x : Th) : D := .tup [.int x.1, .tup (x.2.1.map .int), .int x.2.2]
def thL : Th → Th → Bool := lexP intL (lexP lexLt intL)
theorem thL_lin : LinL thL := lexP_lin intL_lin (lexP_lin lexLt_lin intL_lin)
theorem intsD_map : ∀ ks : List Int, intsD (ks.map D.int) = some ks
  | [] => rfl
  | k :: ks => by
    have e : intsD (D.int k :: ks.map D.int) = (intsD (ks.map D.int)).map (k :: ·) := rfl
    rw [List.map_cons, e, intsD_map ks]; rfl
theorem th_lexN (a b : Th) : lexN [.int a.1, .tup (a.2.1.map .int), .int a.2.2] [.int b.1, .tup (b.2.1.map .int), .int b.2.2] = thL a b := by
  have e : lexN [.int a.1, .tup (a.2.1.map .int), .int a.2.2] [.int b.1, .tup (b.2.1.map .int), .int b.2.2] = if a.1 = b.1 then (if intsD (a.2.1.map .int) = intsD (b.2.1.map .int) then (if a.2.2 = b.2.2 then false else decide (a.2.2 < b.2.2)) else lexLt ((intsD (a.2.1.map .int)).getD []) ((intsD (b.2.1.map .int)).getD [])) else decide (a.1 < b.1) := rfl
  rw [e, intsD_map, intsD_map]
  unfold thL lexP intL
  by_cases q1 : a.1 = b.1
  · rw [if_pos q1, if_pos q1]
    by_cases q2 : a.2.1 = b.2.1
    · rw [if_pos (congrArg some q2), if_pos q2]
      by_cases q3 : a.2.2 = b.2.2
      · rw [if_pos q3]; exact (decide_eq_false (by omega)).symm
      · rw [if_neg q3]
    · rw [if_neg (fun z => q2 (Option.some.inj z)), if_neg q2]; rfl
  · rw [if_neg q1, if_neg q1]
theorem th_ok (a b : Th) : okN [.int a.1, .tup (a.2.1.map .int), .int a.2.2] [.int b.1, .tup (b.2.1.map .int), .int b.2.2] = true := by
  have e : okN [.int a.1, .tup (a.2.1.map .int), .int a.2.2] [.int b.1, .tup (b.2.1.map .int), .int b.2.2] = if (intsD (a.2.1.map .int)).isSome = true then (if (intsD (b.2.1.map .int)).isSome = true then true else false) else false := rfl
  rw [e, intsD_map, intsD_map]; rfl
theorem th_lt (a b : Th) : opLtN (thD a) (thD b) = some (.bl (thL a b)) := by
  have e : opLtN (thD a) (thD b) = if okN [.int a.1, .tup (a.2.1.map .int), .int a.2.2] [.int b.1, .tup (b.2.1.map .int), .int b.2.2] = true then some (.bl (lexN [.int a.1, .tup (a.2.1.map .int), .int a.2.2] [.int b.1, .tup (b.2.1.map .int), .int b.2.2])) else none := rfl
  rw [e, if_pos (th_ok a b), th_lexN]
theorem th_rd : ∀ (m : Mem) (a : Th) (β : Type) (z : β) (c : Cl) (f : D → Cl → β), rdG z m (thD a) c f = f (thD a) c := fun _ _ _ _ _ _ => rfl
theorem th_tnOk (a b : Th) : tnOk (thD a) (thD b) = true := th_ok a b
theorem th_tnLt (a b : Th) : tnLt (thD a) (thD b) = thL a b := th_lexN a b
theorem th_min : ∀ (ys : List Th) (x : Th), minN (thD x) (ys.map thD) = thD (minA thL x ys) := by
  intro ys
  induction ys with
  | nil => intro x; rfl
  | cons y ys ih =>
    intro x
    have e : minN (thD x) ((y :: ys).map thD) = minN (if tnLt (thD y) (thD x) = true then thD y else thD x) (ys.map thD) := rfl
    have e2 : minA thL x (y :: ys) = minA thL (if thL y x = true then y else x) ys := rfl
    rw [e, e2, th_tnLt]
    by_cases q : thL y x = true
    · rw [if_pos q, if_pos q]; exact ih y
    · rw [if_neg q, if_neg q]; exact ih x
theorem th_all (x : Th) (ys : List Th) : ((thD x :: ys.map thD).all fun a => (thD x :: ys.map thD).all fun b => tnOk a b) = true := by
  have h : ∀ z ∈ thD x :: ys.map thD, ∃ t : Th, z = thD t := fun z hz => by
    rcases List.mem_cons.mp hz with h | h
    · exact ⟨x, h⟩
    · obtain ⟨t, _, e⟩ := List.mem_map.mp h
      exact ⟨t, e.symm⟩
  refine List.all_eq_true.mpr fun a ha => List.all_eq_true.mpr fun b hb => ?_
  obtain ⟨t, rfl⟩ := h a ha
  obtain ⟨u, rfl⟩ := h b hb
  exact th_tnOk t u
theorem eqvs_map : ∀ ks ls : List Int, D.eqvs (ks.map .int) (ls.map .int) = decide (ks = ls)
  | [], [] => rfl
  | [], _ :: _ => rfl
  | _ :: _, [] => rfl
  | k :: ks, l :: ls => by
    rw [List.map_cons, List.map_cons, D.eqvs, D.eqv, eqvs_map ks ls]
    by_cases a : k = l <;> by_cases b : ks = ls <;> simp [a, b]
theorem plains_map : ∀ ks : List Int, D.plains (ks.map .int) = true ∧ D.depths (ks.map .int) = 0
  | [] => ⟨rfl, rfl⟩
  | k :: ks => by
    have ih := plains_map ks
    refine ⟨?_, ?_⟩
    · rw [List.map_cons, D.plains, ih.1]; rfl
    · rw [List.map_cons, D.depths, ih.2]; rfl
theorem th_plain (a : Th) : (thD a).plain = true := by
  have h : (D.tup (a.2.1.map .int)).plain = true := by rw [D.plain]; exact (plains_map a.2.1).1
  unfold thD
  rw [D.plain, D.plains, D.plains, D.plains, D.plains, h]; rfl
theorem th_depth (a : Th) : (thD a).depth = 2 := by
  unfold thD
  rw [D.depth, D.depths, D.depths, D.depths, D.depths, D.depth, (plains_map a.2.1).2]; rfl
theorem th_eqv (a b : Th) : D.eqv (thD a) (thD b) = decide (a = b) := by
  have e : D.eqv (thD a) (thD b) = ((a.1 == b.1) && (D.eqvs (a.2.1.map .int) (b.2.1.map .int) && ((a.2.2 == b.2.2) && true))) := by
    unfold thD
    rw [D.eqv, D.eqvs, D.eqvs, D.eqvs, D.eqvs, D.eqv, D.eqv, D.eqv]
  rw [e, eqvs_map]
  obtain ⟨a1, a2, a3⟩ := a
  obtain ⟨b1, b2, b3⟩ := b
  by_cases q1 : a1 = b1 <;> by_cases q2 : a2 = b2 <;> by_cases q3 : a3 = b3 <;> simp [q1, q2, q3]
theorem th_idx {ds : List Th} {m : Th} (hm : m ∈ ds) : ∃ j : Nat, fIndex (thD m) (.lst (ds.map thD)) = some (.int (j : Nat)) ∧ ds[j]? = some m := by
  have pl : D.plains (ds.map thD) = true := plains_all fun d hd => by
    obtain ⟨t, _, rfl⟩ := List.mem_map.mp hd
    exact th_plain t
  have dp : D.depths (ds.map thD) ≤ 2 := depths_le fun d hd => by
    obtain ⟨t, _, rfl⟩ := List.mem_map.mp hd
    rw [th_depth]; exact Nat.le_refl _
  have dl : dataL (thD m) (ds.map thD) = true := by
    unfold dataL
    rw [th_plain, pl, th_depth, D.depth]
    simp
    omega
  have e0 : fIndex (thD m) (.lst (ds.map thD)) = if dataL (thD m) (ds.map thD) = true then ((ds.map thD).findIdx? fun z => D.eqv z (thD m)).map fun j => D.int (j : Nat) else none := rfl
  rw [e0, if_pos dl]
  cases q : (ds.map thD).findIdx? fun z => D.eqv z (thD m) with
  | none =>
    have := List.findIdx?_eq_none_iff.mp q (thD m) (List.mem_map_of_mem hm)
    rw [th_eqv] at this
    simp at this
  | some j =>
    obtain ⟨h1, h2, _⟩ := List.findIdx?_eq_some_iff_getElem.mp q
    refine ⟨j, rfl, ?_⟩
    rw [List.length_map] at h1
    rw [List.getElem_map, th_eqv] at h2
    rw [List.getElem?_eq_getElem h1, of_decide_eq_true h2]
/-- a heap and the law's own list -/
structure HpOk (hs ds : List Th) : Prop where
  o : HOrd thL hs
  p : hs.Perm ds
theorem at_same {m : Mem} {n : Nat} {x : D} (h : at_ m n = some x) : m.set n (some x) = m := by
  have hl := at_lt h
  refine List.ext_getElem? fun i => ?_
  rw [List.getElem?_set]
  by_cases q : n = i
  · subst q
    rw [if_pos rfl, if_pos hl]
    unfold at_ at h
    rw [List.getElem?_eq_getElem hl] at h ⊢
    exact congrArg some h.symm
  · rw [if_neg q]
theorem empty_take {q : Nat} (hq : at_ μ q = some (.lst [])) : Ev.heap_take [.ptr q] μ = .ok .non .cold μ := by
  refine fn_wp ?_
  unfold Ev.b_heap_take
  simp (disch := omega) only [Q.evs, Nat.reduceAdd, Nat.reduceSub, Nat.reduceLeDiff, Nat.reduceLT, Nat.reduceEqDiff, Int.reducePow, Int.reduceToNat, Int.reduceAdd, Int.reduceMul, Int.reduceNeg, Int.reduceSub, Int.reduceLT, Int.reduceLE, decide_eq_true_eq, Bool.or_false, Bool.or_true, Bool.false_or, Bool.true_or, Bool.not_true, Bool.not_false, Bool.not_eq_true, decide_eq_false_iff_not, Bool.not_eq_eq_eq_not, decide_true, decide_false, ↓reduceIte, if_pos, if_neg, Bool.false_eq_true, and_self, and_true, true_and, List.getElem?_cons_zero, List.getElem?_cons_succ, List.set_cons_zero, List.set_cons_succ, List.length_cons, List.length_nil, List.length_map, List.map_cons, List.map_nil, List.replicate, List.cons_append, List.nil_append, List.append_nil, Option.map_some, Option.map_none, Option.bind_some, Option.bind_none, List.append_assoc, Bool.true_and, Bool.and_true, Bool.false_and, Bool.and_false, hq]
theorem taken_ok {q p : Nat} {hs ds : List Th} (hq : at_ μ q = some (.lst (hs.map thD))) (hp : at_ μ p = some (.lst (ds.map thD))) (hne : q ≠ p) (H : HpOk hs ds) (hl : hs.length ≤ 900000) :
    ∃ hs' ds', Ev.l_taken [.ptr q, .ptr p] μ = .ok (.bl true) .cold ((μ.set q (some (.lst (hs'.map thD)))).set p (some (.lst (ds'.map thD)))) ∧ HpOk hs' ds' ∧ hs'.length ≤ hs.length := by
  cases ds with
  | nil =>
    have e : hs = [] := H.p.eq_nil
    subst e
    refine ⟨[], [], ?_, H, Nat.le_refl _⟩
    have s1 : μ.set q (some (.lst (([] : List Th).map thD))) = μ := at_same hq
    have s2 : μ.set p (some (.lst (([] : List Th).map thD))) = μ := at_same hp
    rw [s1, s2]
    have tk := empty_take (μ := μ) hq
    have hp : at_ μ p = some (.lst []) := hp
    refine fn_wp ?_
    unfold Ev.b_l_taken
    simp (disch := omega) only [Q.evs, Nat.reduceAdd, Nat.reduceSub, Nat.reduceLeDiff, Nat.reduceLT, Nat.reduceEqDiff, Int.reducePow, Int.reduceToNat, Int.reduceAdd, Int.reduceMul, Int.reduceNeg, Int.reduceSub, Int.reduceLT, Int.reduceLE, decide_eq_true_eq, Bool.or_false, Bool.or_true, Bool.false_or, Bool.true_or, Bool.not_true, Bool.not_false, Bool.not_eq_true, decide_eq_false_iff_not, Bool.not_eq_eq_eq_not, decide_true, decide_false, ↓reduceIte, if_pos, if_neg, Bool.false_eq_true, and_self, and_true, true_and, List.getElem?_cons_zero, List.getElem?_cons_succ, List.set_cons_zero, List.set_cons_succ, List.length_cons, List.length_nil, List.length_map, List.map_cons, List.map_nil, List.replicate, List.cons_append, List.nil_append, List.append_nil, Option.map_some, Option.map_none, Option.bind_some, Option.bind_none, List.append_assoc, Bool.true_and, Bool.and_true, Bool.false_and, Bool.and_false, tk, hp]
    rfl
  | cons d ds =>
    have ln := H.p.length_eq
    rw [List.length_cons] at ln
    have tk := heap_take_ok (μ := μ) th_lt th_rd hq (by omega) hl
    have hm := head_min thL_lin H.o H.p
    obtain ⟨a, b⟩ := minA_spec thL_lin ds d
    obtain ⟨j, i1, i2⟩ := th_idx a
    rw [← hm] at i1 i2
    have tp := takeH_perm thL (hs := hs) (by omega)
    refine ⟨takeH thL hs, (d :: ds).eraseIdx j, ?_, ⟨takeH_ord thL_lin.tot thL_lin.irr H.o, ?_⟩, ?_⟩
    · have mn := th_min ds d
      rw [← hm] at mn
      have al := th_all d ds
      obtain ⟨M, hM⟩ : ∃ M : Mem, μ.set q (some (.lst ((takeH thL hs).map thD))) = M := ⟨_, rfl⟩
      rw [hM] at tk ⊢
      have hp : at_ M p = some (.lst (thD d :: ds.map thD)) := by rw [← hM, at_set_ne hne]; exact hp
      have i1 : fIndex (thD (gA hs 0)) (.lst (thD d :: ds.map thD)) = some (.int (j : Nat)) := i1
      have er : (thD d :: ds.map thD).eraseIdx j = ((d :: ds).eraseIdx j).map thD := by
        rw [List.eraseIdx_eq_take_drop_succ, List.eraseIdx_eq_take_drop_succ, List.map_append, List.map_take, List.map_drop]; rfl
      have tn : ((j : Nat) : Int).toNat = j := Int.toNat_natCast j
      have ll : ds.length + 1 ≤ 1000000 := by omega
      have it : isTup (thD (gA hs 0)) = some true := rfl
      have eq := eq_self' (th_plain (gA hs 0)) (by rw [th_depth]; decide)
      have r0 := fun m => th_rd m (gA hs 0)
      have emp : (thD d :: ds.map thD).isEmpty = false := rfl
      refine fn_wp ?_
      unfold Ev.b_l_taken
      simp (disch := omega) only [Q.evs, Nat.reduceAdd, Nat.reduceSub, Nat.reduceLeDiff, Nat.reduceLT, Nat.reduceEqDiff, Int.reducePow, Int.reduceToNat, Int.reduceAdd, Int.reduceMul, Int.reduceNeg, Int.reduceSub, Int.reduceLT, Int.reduceLE, decide_eq_true_eq, Bool.or_false, Bool.or_true, Bool.false_or, Bool.true_or, Bool.not_true, Bool.not_false, Bool.not_eq_true, decide_eq_false_iff_not, Bool.not_eq_eq_eq_not, decide_true, decide_false, ↓reduceIte, if_pos, if_neg, Bool.false_eq_true, and_self, and_true, true_and, List.getElem?_cons_zero, List.getElem?_cons_succ, List.set_cons_zero, List.set_cons_succ, List.length_cons, List.length_nil, List.length_map, List.map_cons, List.map_nil, List.replicate, List.cons_append, List.nil_append, List.append_nil, Option.map_some, Option.map_none, Option.bind_some, Option.bind_none, List.append_assoc, Bool.true_and, Bool.and_true, Bool.false_and, Bool.and_false, tk, hp, ll, al, mn, i1, tn, er, it, eq, r0, emp]
    · have h1 := (List.getElem?_eq_some_iff.mp i2).1
      have h2 := (List.getElem?_eq_some_iff.mp i2).2
      have e1 : (gA hs 0 :: (d :: ds).eraseIdx j).Perm (d :: ds) := by
        have e2 : d :: ds = (d :: ds).take j ++ gA hs 0 :: (d :: ds).drop (j + 1) := by
          rw [← h2, ← List.drop_eq_getElem_cons h1, List.take_append_drop]
        have e3 := (List.perm_middle (a := gA hs 0) (l₁ := (d :: ds).take j) (l₂ := (d :: ds).drop (j + 1))).symm
        rw [← e2, ← List.eraseIdx_eq_take_drop_succ] at e3
        exact e3
      exact (List.perm_cons (gA hs 0)).mp (tp.trans (H.p.trans e1.symm))
    · have := tp.length_eq
      rw [List.length_cons] at this
      omega
theorem put_ok {q : Nat} {hs ds : List Th} (hq : at_ μ q = some (.lst (hs.map thD))) (H : HpOk hs ds) (hl : hs.length ≤ 900000) (x : Th) :
    Ev.heap_put [.ptr q, thD x] μ = .ok .non .cold (μ.set q (some (.lst ((putH thL hs x).map thD)))) ∧ HpOk (putH thL hs x) (ds ++ [x]) ∧ (putH thL hs x).length = hs.length + 1 := by
  have pp := putH_perm thL hs x
  refine ⟨heap_put_ok th_lt th_rd hq hl, ⟨putH_ord thL_lin.tot H.o x, pp.trans (H.p.append_right [x])⟩, ?_⟩
  have := pp.length_eq
  rw [List.length_append] at this
  exact this
theorem thing_ok {c k : Int} : ∃ x : Th, Ev.l_thing [.int c, .int k] μ = .ok (thD x) .cold μ := by
  refine fn_wpP (fun r => ∃ x : Th, r = .ok (thD x) .cold μ) ?_
  unfold Ev.b_l_thing
  obtain ⟨xs, st, sl, si⟩ := stream_ok (μ := μ) (c := c) (many := 6) (by decide) (by decide)
  have a0 := (si.at (k := 0) (by omega) (by omega)).1
  have a1 := (si.at (k := 1) (by omega) (by omega)).1
  have a5 := si.at (k := 5) (by omega) (by omega)
  have g1 := Int.emod_nonneg (gt xs 1) (show (4 : Int) ≠ 0 by decide)
  have g2 := Int.emod_lt_of_pos (gt xs 1) (show (0 : Int) < 4 by decide)
  have ak := fun (k : Int) (h0 : 0 ≤ k) (h1 : k < gt xs 1 % 4) => (si.at (k := 2 + k) (by omega) (by omega)).1
  obtain ⟨m1, hm1⟩ : ∃ m1, gt xs 1 % 4 = m1 := ⟨_, rfl⟩
  rw [hm1] at g1 g2 ak
  have rl : (rng 0 m1).length ≤ 1000000 := by rw [rng_len]; omega
  have mm := fun (n : Int) => (List.map_map (f := fun k => gt xs (2 + k) % n) (g := D.int) (l := rng 0 m1)).symm
  by_cases q : k = 0
  · subst q
    have lc := lc_rng (i := 4) (t := tyes) (x := op2 opMod (idx (var 2) (op2 opAdd (con (.int 2)) (var 4))) (con (.int 2))) (e := ⟨[.cold (.int c), .cold (.int 0), .cold (.lst (xs.map .int)), .no, .no], μ⟩) (m := μ) (g := fun k => .int (gt xs (2 + k) % 2)) (lo := 0) (hi := m1) (fun k h0 h1 => by
      have a := ak k h0 h1
      simp (disch := omega) only [Q.evs, Nat.reduceAdd, Nat.reduceSub, Nat.reduceLeDiff, Nat.reduceLT, Nat.reduceEqDiff, Int.reducePow, Int.reduceToNat, Int.reduceAdd, Int.reduceMul, Int.reduceNeg, Int.reduceSub, Int.reduceLT, Int.reduceLE, decide_eq_true_eq, Bool.or_false, Bool.or_true, Bool.false_or, Bool.true_or, Bool.not_true, Bool.not_false, Bool.not_eq_true, decide_eq_false_iff_not, Bool.not_eq_eq_eq_not, decide_true, decide_false, ↓reduceIte, if_pos, if_neg, Bool.false_eq_true, and_self, and_true, true_and, List.getElem?_cons_zero, List.getElem?_cons_succ, List.set_cons_zero, List.set_cons_succ, List.length_cons, List.length_nil, List.length_map, List.map_cons, List.map_nil, List.replicate, List.cons_append, List.nil_append, List.append_nil, Option.map_some, Option.map_none, Option.bind_some, Option.bind_none, List.append_assoc, Bool.true_and, Bool.and_true, Bool.false_and, Bool.and_false, lcTurn, a]) (by omega)
    simp (disch := omega) only [Q.evs, Nat.reduceAdd, Nat.reduceSub, Nat.reduceLeDiff, Nat.reduceLT, Nat.reduceEqDiff, Int.reducePow, Int.reduceToNat, Int.reduceAdd, Int.reduceMul, Int.reduceNeg, Int.reduceSub, Int.reduceLT, Int.reduceLE, decide_eq_true_eq, Bool.or_false, Bool.or_true, Bool.false_or, Bool.true_or, Bool.not_true, Bool.not_false, Bool.not_eq_true, decide_eq_false_iff_not, Bool.not_eq_eq_eq_not, decide_true, decide_false, ↓reduceIte, if_pos, if_neg, Bool.false_eq_true, and_self, and_true, true_and, List.getElem?_cons_zero, List.getElem?_cons_succ, List.set_cons_zero, List.set_cons_succ, List.length_cons, List.length_nil, List.length_map, List.map_cons, List.map_nil, List.replicate, List.cons_append, List.nil_append, List.append_nil, Option.map_some, Option.map_none, Option.bind_some, Option.bind_none, List.append_assoc, Bool.true_and, Bool.and_true, Bool.false_and, Bool.and_false, st, a0, a1, hm1, lc, a5.1, rl]
    exact ⟨(_, (rng 0 m1).map (fun k => gt xs (2 + k) % 2), _), by unfold thD; rw [List.map_map]; rfl⟩
  · have lc := lc_rng (i := 4) (t := tyes) (x := op2 opMod (idx (var 2) (op2 opAdd (con (.int 2)) (var 4))) (con (.int 9))) (e := ⟨[.cold (.int c), .cold (.int k), .cold (.lst (xs.map .int)), .cold (.int (c % 2000000000000000000000000000001 - 1000000000000000000000000000000)), .no], μ⟩) (m := μ) (g := fun k => .int (gt xs (2 + k) % 9)) (lo := 0) (hi := m1) (fun k h0 h1 => by
      have a := ak k h0 h1
      simp (disch := omega) only [Q.evs, Nat.reduceAdd, Nat.reduceSub, Nat.reduceLeDiff, Nat.reduceLT, Nat.reduceEqDiff, Int.reducePow, Int.reduceToNat, Int.reduceAdd, Int.reduceMul, Int.reduceNeg, Int.reduceSub, Int.reduceLT, Int.reduceLE, decide_eq_true_eq, Bool.or_false, Bool.or_true, Bool.false_or, Bool.true_or, Bool.not_true, Bool.not_false, Bool.not_eq_true, decide_eq_false_iff_not, Bool.not_eq_eq_eq_not, decide_true, decide_false, ↓reduceIte, if_pos, if_neg, Bool.false_eq_true, and_self, and_true, true_and, List.getElem?_cons_zero, List.getElem?_cons_succ, List.set_cons_zero, List.set_cons_succ, List.length_cons, List.length_nil, List.length_map, List.map_cons, List.map_nil, List.replicate, List.cons_append, List.nil_append, List.append_nil, Option.map_some, Option.map_none, Option.bind_some, Option.bind_none, List.append_assoc, Bool.true_and, Bool.and_true, Bool.false_and, Bool.and_false, lcTurn, a]) (by omega)
    simp (disch := omega) only [Q.evs, Nat.reduceAdd, Nat.reduceSub, Nat.reduceLeDiff, Nat.reduceLT, Nat.reduceEqDiff, Int.reducePow, Int.reduceToNat, Int.reduceAdd, Int.reduceMul, Int.reduceNeg, Int.reduceSub, Int.reduceLT, Int.reduceLE, decide_eq_true_eq, Bool.or_false, Bool.or_true, Bool.false_or, Bool.true_or, Bool.not_true, Bool.not_false, Bool.not_eq_true, decide_eq_false_iff_not, Bool.not_eq_eq_eq_not, decide_true, decide_false, ↓reduceIte, if_pos, if_neg, Bool.false_eq_true, and_self, and_true, true_and, List.getElem?_cons_zero, List.getElem?_cons_succ, List.set_cons_zero, List.set_cons_succ, List.length_cons, List.length_nil, List.length_map, List.map_cons, List.map_nil, List.replicate, List.cons_append, List.nil_append, List.append_nil, Option.map_some, Option.map_none, Option.bind_some, Option.bind_none, List.append_assoc, Bool.true_and, Bool.and_true, Bool.false_and, Bool.and_false, st, q, a0, a1, hm1, lc, a5.1, rl]
    exact ⟨(_, (rng 0 m1).map (fun k => gt xs (2 + k) % 9), _), by unfold thD; rw [List.map_map]; rfl⟩
theorem cut63 {ns : List Int} (h : ns.length ≤ 63) : cut ns none (some 63) = ns := by
  unfold cut sIx
  simp only [if_neg (show ¬ (63 : Int) < 0 by decide)]
  rw [List.drop_zero, List.take_of_length_le (by omega)]
def M4 (h0 h1 d0 d1 : List Th) : Mem := [some (.lst (h0.map thD)), some (.lst (h1.map thD)), some (.lst (d0.map thD)), some (.lst (d1.map thD))]
structure H4 (n : Nat) (h0 h1 d0 d1 : List Th) : Prop where
  a : HpOk h0 d0
  b : HpOk h1 d1
  la : h0.length ≤ n
  lb : h1.length ≤ n
theorem take4 {n : Nat} {h0 h1 d0 d1 : List Th} (H : H4 n h0 h1 d0 d1) (hn : n ≤ 1000) {a : Int} (ha : a = 0 ∨ a = 1) :
    ∃ h0' h1' d0' d1' : List Th, ∃ p q : Nat, atI [D.ptr 0, D.ptr 1] a = some (.ptr p) ∧ atI [D.ptr 2, D.ptr 3] a = some (.ptr q) ∧ Ev.l_taken [.ptr p, .ptr q] (M4 h0 h1 d0 d1) = .ok (.bl true) .cold (M4 h0' h1' d0' d1') ∧ H4 n h0' h1' d0' d1' := by
  rcases ha with rfl | rfl
  · obtain ⟨h0', d0', e, k, l⟩ := taken_ok (μ := M4 h0 h1 d0 d1) (q := 0) (p := 2) (hs := h0) (ds := d0) rfl rfl (by decide) H.a (by have := H.la; omega)
    exact ⟨h0', h1, d0', d1, 0, 2, rfl, rfl, e, ⟨k, H.b, by have := H.la; omega, H.lb⟩⟩
  · obtain ⟨h1', d1', e, k, l⟩ := taken_ok (μ := M4 h0 h1 d0 d1) (q := 1) (p := 3) (hs := h1) (ds := d1) rfl rfl (by decide) H.b (by have := H.lb; omega)
    exact ⟨h0, h1', d0, d1', 1, 3, rfl, rfl, e, ⟨H.a, k, H.la, by have := H.lb; omega⟩⟩
theorem put4 {n : Nat} {h0 h1 d0 d1 : List Th} (H : H4 n h0 h1 d0 d1) (hn : n ≤ 1000) {a : Int} (ha : a = 0 ∨ a = 1) (x : Th) :
    ∃ h0' h1' d0' d1' d : List Th, ∃ p q : Nat, ∃ M : Mem, atI [D.ptr 0, D.ptr 1] a = some (.ptr p) ∧ atI [D.ptr 2, D.ptr 3] a = some (.ptr q) ∧ at_ (M4 h0 h1 d0 d1) q = some (.lst (d.map thD)) ∧ d.length ≤ 1000 ∧ (M4 h0 h1 d0 d1).set q (some (.lst (d.map thD ++ [thD x]))) = M ∧
      Ev.heap_put [.ptr p, thD x] M = .ok .non .cold (M4 h0' h1' d0' d1') ∧ H4 (n + 1) h0' h1' d0' d1' := by
  have ma : ∀ d : List Th, d.map thD ++ [thD x] = (d ++ [x]).map thD := fun d => by rw [List.map_append]; rfl
  rcases ha with rfl | rfl
  · obtain ⟨e, k, l⟩ := put_ok (μ := M4 h0 h1 (d0 ++ [x]) d1) (q := 0) (hs := h0) (ds := d0) rfl H.a (by have := H.la; omega) x
    refine ⟨putH thL h0 x, h1, d0 ++ [x], d1, d0, 0, 2, M4 h0 h1 (d0 ++ [x]) d1, rfl, rfl, rfl, ?_, by rw [ma]; rfl, e, ⟨k, H.b, by have := H.la; omega, by have := H.lb; omega⟩⟩
    have := H.a.p.length_eq; have := H.la; omega
  · obtain ⟨e, k, l⟩ := put_ok (μ := M4 h0 h1 d0 (d1 ++ [x])) (q := 1) (hs := h1) (ds := d1) rfl H.b (by have := H.lb; omega) x
    refine ⟨h0, putH thL h1 x, d0, d1 ++ [x], d1, 1, 3, M4 h0 h1 d0 (d1 ++ [x]), rfl, rfl, rfl, ?_, by rw [ma]; rfl, e, ⟨H.a, k, by have := H.la; omega, by have := H.lb; omega⟩⟩
    have := H.b.p.length_eq; have := H.lb; omega
theorem dues4 {n : Nat} {h0 h1 d0 d1 : List Th} (H : H4 n h0 h1 d0 d1) (hn : n ≤ 1000) {a : Int} (ha : a = 0 ∨ a = 1) : ∃ (q : Nat) (d : List Th), atI [D.ptr 2, D.ptr 3] a = some (.ptr q) ∧ at_ (M4 h0 h1 d0 d1) q = some (.lst (d.map thD)) ∧ d.length ≤ 1000 := by
  rcases ha with rfl | rfl
  · exact ⟨2, d0, rfl, rfl, by have := H.a.p.length_eq; have := H.la; omega⟩
  · exact ⟨3, d1, rfl, rfl, by have := H.b.p.length_eq; have := H.lb; omega⟩
theorem nil_ord : HOrd thL [] := fun j j0 j1 => by simp at j1; omega
theorem law_true : ∀ ns : List Int, ns.length ≤ 63 → ∃ c m, Ev.law [.frz ns] [] = .ok (.bl true) c m := by
  intro ns hns
  refine fn_wpP (fun r => ∃ c m, r = .ok (.bl true) c m) ?_
  unfold Ev.b_law
  have ca := cellA_ok (μ := []) (ns := ns) (k := 0) (by decide)
  generalize gt ns 0 = num at *
  have m0 := Int.emod_nonneg (num / 2) (show (41 : Int) ≠ 0 by decide)
  have m1 := Int.emod_lt_of_pos (num / 2) (show (0 : Int) < 41 by decide)
  have z0 := Int.emod_nonneg (num / 82) (show (2 : Int) ≠ 0 by decide)
  have z1 := Int.emod_lt_of_pos (num / 82) (show (0 : Int) < 2 by decide)
  obtain ⟨xs, st, sl, si⟩ := stream_ok (μ := [some (.lst []), some (.lst []), some (.lst []), some (.lst [])]) (c := num) (many := num / 2 % 41) m0 (by omega)
  have c63 := cut63 hns
  have l0 : xs.length + ns.length ≤ 1000000 := by omega
  have ma : List.map D.int xs ++ List.map D.int ns = (xs ++ ns).map D.int := List.map_append.symm
  obtain ⟨cs, hcs⟩ : ∃ cs, xs ++ ns = cs := ⟨_, rfl⟩
  have cl : cs.length ≤ 103 := by rw [← hcs, List.length_append]; omega
  rw [hcs] at ma
  simp (disch := omega) only [Q.evs, Nat.reduceAdd, Nat.reduceSub, Nat.reduceLeDiff, Nat.reduceLT, Nat.reduceEqDiff, Int.reducePow, Int.reduceToNat, Int.reduceAdd, Int.reduceMul, Int.reduceNeg, Int.reduceSub, Int.reduceLT, Int.reduceLE, decide_eq_true_eq, Bool.or_false, Bool.or_true, Bool.false_or, Bool.true_or, Bool.not_true, Bool.not_false, Bool.not_eq_true, decide_eq_false_iff_not, Bool.not_eq_eq_eq_not, decide_true, decide_false, ↓reduceIte, if_pos, if_neg, Bool.false_eq_true, and_self, and_true, true_and, List.getElem?_cons_zero, List.getElem?_cons_succ, List.set_cons_zero, List.set_cons_succ, List.length_cons, List.length_nil, List.length_map, List.map_cons, List.map_nil, List.replicate, List.cons_append, List.nil_append, List.append_nil, Option.map_some, Option.map_none, Option.bind_some, Option.bind_none, List.append_assoc, Bool.true_and, Bool.and_true, Bool.false_and, Bool.and_false, ca, st, c63, l0, ma]
  obtain ⟨z, hz⟩ : ∃ z, num / 82 % 2 = z := ⟨_, rfl⟩
  rw [hz] at z0 z1
  refine wp_bind (wp_list (fun pre e => ∃ h0 h1 d0 d1 s6 s7 s8, H4 pre.length h0 h1 d0 d1 ∧ e = ⟨[.cold (.frz ns), .cold (.int num), .cold (.int (num % 2)), .cold (.lst [.ptr 0, .ptr 1]), .cold (.lst [.ptr 2, .ptr 3]), .cold (.lst (cs.map .int)), s6, s7, s8, .no], M4 h0 h1 d0 d1⟩)
    ⟨[], [], [], [], .no, .no, .no, ⟨⟨nil_ord, List.Perm.nil⟩, ⟨nil_ord, List.Perm.nil⟩, Nat.le_refl _, Nat.le_refl _⟩, rfl⟩ ?_ ?_)
  · rintro pre x suf e hx ⟨h0, h1, d0, d1, s6, s7, s8, H, rfl⟩
    have pl : pre.length ≤ 1000 := by
      have := congrArg List.length hx
      rw [List.length_append, List.length_cons] at this
      omega
    refine ⟨_, rfl, ?_⟩
    have w0 := Int.emod_nonneg (x / 8) (show 1 + z ≠ 0 by omega)
    have w1 := Int.emod_lt_of_pos (x / 8) (show 0 < 1 + z by omega)
    obtain ⟨a, ha⟩ : ∃ a, x / 8 % (1 + z) = a := ⟨_, rfl⟩
    rw [ha] at w0 w1
    have ha2 : a = 0 ∨ a = 1 := by omega
    by_cases q : x % 4 = 3
    · obtain ⟨h0', h1', d0', d1', p, k, i1, i2, tk, H'⟩ := take4 H pl ha2
      simp (disch := omega) only [Q.evs, Nat.reduceAdd, Nat.reduceSub, Nat.reduceLeDiff, Nat.reduceLT, Nat.reduceEqDiff, Int.reducePow, Int.reduceToNat, Int.reduceAdd, Int.reduceMul, Int.reduceNeg, Int.reduceSub, Int.reduceLT, Int.reduceLE, decide_eq_true_eq, Bool.or_false, Bool.or_true, Bool.false_or, Bool.true_or, Bool.not_true, Bool.not_false, Bool.not_eq_true, decide_eq_false_iff_not, Bool.not_eq_eq_eq_not, decide_true, decide_false, ↓reduceIte, if_pos, if_neg, Bool.false_eq_true, and_self, and_true, true_and, List.getElem?_cons_zero, List.getElem?_cons_succ, List.set_cons_zero, List.set_cons_succ, List.length_cons, List.length_nil, List.length_map, List.map_cons, List.map_nil, List.replicate, List.cons_append, List.nil_append, List.append_nil, Option.map_some, Option.map_none, Option.bind_some, Option.bind_none, List.append_assoc, Bool.true_and, Bool.and_true, Bool.false_and, Bool.and_false, hz, ha, q, i1, i2, tk]
      exact ⟨h0', h1', d0', d1', _, _, _, ⟨H'.a, H'.b, by rw [List.length_append]; exact Nat.le_succ_of_le H'.la, by rw [List.length_append]; exact Nat.le_succ_of_le H'.lb⟩, rfl⟩
    · obtain ⟨t, th⟩ := thing_ok (μ := M4 h0 h1 d0 d1) (c := x / 4) (k := num % 2)
      obtain ⟨h0', h1', d0', d1', d, p, k, M, i1, i2, i3, i4, i5, pt, H'⟩ := put4 H pl ha2 t
      have lm : d.length < 1000000 := by omega
      have r0 := fun m => th_rd m t
      simp (disch := omega) only [Q.evs, Nat.reduceAdd, Nat.reduceSub, Nat.reduceLeDiff, Nat.reduceLT, Nat.reduceEqDiff, Int.reducePow, Int.reduceToNat, Int.reduceAdd, Int.reduceMul, Int.reduceNeg, Int.reduceSub, Int.reduceLT, Int.reduceLE, decide_eq_true_eq, Bool.or_false, Bool.or_true, Bool.false_or, Bool.true_or, Bool.not_true, Bool.not_false, Bool.not_eq_true, decide_eq_false_iff_not, Bool.not_eq_eq_eq_not, decide_true, decide_false, ↓reduceIte, if_pos, if_neg, Bool.false_eq_true, and_self, and_true, true_and, List.getElem?_cons_zero, List.getElem?_cons_succ, List.set_cons_zero, List.set_cons_succ, List.length_cons, List.length_nil, List.length_map, List.map_cons, List.map_nil, List.replicate, List.cons_append, List.nil_append, List.append_nil, Option.map_some, Option.map_none, Option.bind_some, Option.bind_none, List.append_assoc, Bool.true_and, Bool.and_true, Bool.false_and, Bool.and_false, hz, ha, q, th, i1, i2, i3, i5, pt, lm, r0]
      exact ⟨h0', h1', d0', d1', _, _, _, ⟨H'.a, H'.b, by rw [List.length_append]; exact H'.la, by rw [List.length_append]; exact H'.lb⟩, rfl⟩
  · rintro e ⟨h0, h1, d0, d1, s6, s7, s8, H, rfl⟩
    simp (disch := omega) only [Q.evs, Nat.reduceAdd, Nat.reduceSub, Nat.reduceLeDiff, Nat.reduceLT, Nat.reduceEqDiff, Int.reducePow, Int.reduceToNat, Int.reduceAdd, Int.reduceMul, Int.reduceNeg, Int.reduceSub, Int.reduceLT, Int.reduceLE, decide_eq_true_eq, Bool.or_false, Bool.or_true, Bool.false_or, Bool.true_or, Bool.not_true, Bool.not_false, Bool.not_eq_true, decide_eq_false_iff_not, Bool.not_eq_eq_eq_not, decide_true, decide_false, ↓reduceIte, if_pos, if_neg, Bool.false_eq_true, and_self, and_true, true_and, List.getElem?_cons_zero, List.getElem?_cons_succ, List.set_cons_zero, List.set_cons_succ, List.length_cons, List.length_nil, List.length_map, List.map_cons, List.map_nil, List.replicate, List.cons_append, List.nil_append, List.append_nil, Option.map_some, Option.map_none, Option.bind_some, Option.bind_none, List.append_assoc, Bool.true_and, Bool.and_true, Bool.false_and, Bool.and_false]
    refine wp_bind (wp_rng (fun a e => ∃ h0 h1 d0 d1 s7 s9, H4 cs.length h0 h1 d0 d1 ∧ e = ⟨[.cold (.frz ns), .cold (.int num), .cold (.int (num % 2)), .cold (.lst [.ptr 0, .ptr 1]), .cold (.lst [.ptr 2, .ptr 3]), .cold (.lst (cs.map .int)), s6, s7, s8, s9], M4 h0 h1 d0 d1⟩) ⟨h0, h1, d0, d1, s7, .no, H, rfl⟩ ?_ ?_)
    · rintro a e a0 a1 ⟨h0, h1, d0, d1, s7, s9, H, rfl⟩
      have ha2 : a = 0 ∨ a = 1 := by omega
      obtain ⟨q, d, i1, i2, i3⟩ := dues4 H (by omega) ha2
      simp (disch := omega) only [Q.evs, Nat.reduceAdd, Nat.reduceSub, Nat.reduceLeDiff, Nat.reduceLT, Nat.reduceEqDiff, Int.reducePow, Int.reduceToNat, Int.reduceAdd, Int.reduceMul, Int.reduceNeg, Int.reduceSub, Int.reduceLT, Int.reduceLE, decide_eq_true_eq, Bool.or_false, Bool.or_true, Bool.false_or, Bool.true_or, Bool.not_true, Bool.not_false, Bool.not_eq_true, decide_eq_false_iff_not, Bool.not_eq_eq_eq_not, decide_true, decide_false, ↓reduceIte, if_pos, if_neg, Bool.false_eq_true, and_self, and_true, true_and, List.getElem?_cons_zero, List.getElem?_cons_succ, List.set_cons_zero, List.set_cons_succ, List.length_cons, List.length_nil, List.length_map, List.map_cons, List.map_nil, List.replicate, List.cons_append, List.nil_append, List.append_nil, Option.map_some, Option.map_none, Option.bind_some, Option.bind_none, List.append_assoc, Bool.true_and, Bool.and_true, Bool.false_and, Bool.and_false, i1, i2]
      refine wp_rng (fun _ e => ∃ h0 h1 d0 d1 s9, H4 cs.length h0 h1 d0 d1 ∧ e = ⟨[.cold (.frz ns), .cold (.int num), .cold (.int (num % 2)), .cold (.lst [.ptr 0, .ptr 1]), .cold (.lst [.ptr 2, .ptr 3]), .cold (.lst (cs.map .int)), s6, .cold (.int a), s8, s9], M4 h0 h1 d0 d1⟩) ⟨h0, h1, d0, d1, s9, H, rfl⟩ ?_ ?_
      · rintro k e k0 k1 ⟨h0, h1, d0, d1, s9, H, rfl⟩
        obtain ⟨h0', h1', d0', d1', p, k, i1, i2, tk, H'⟩ := take4 H (by omega) ha2
        simp (disch := omega) only [Q.evs, Nat.reduceAdd, Nat.reduceSub, Nat.reduceLeDiff, Nat.reduceLT, Nat.reduceEqDiff, Int.reducePow, Int.reduceToNat, Int.reduceAdd, Int.reduceMul, Int.reduceNeg, Int.reduceSub, Int.reduceLT, Int.reduceLE, decide_eq_true_eq, Bool.or_false, Bool.or_true, Bool.false_or, Bool.true_or, Bool.not_true, Bool.not_false, Bool.not_eq_true, decide_eq_false_iff_not, Bool.not_eq_eq_eq_not, decide_true, decide_false, ↓reduceIte, if_pos, if_neg, Bool.false_eq_true, and_self, and_true, true_and, List.getElem?_cons_zero, List.getElem?_cons_succ, List.set_cons_zero, List.set_cons_succ, List.length_cons, List.length_nil, List.length_map, List.map_cons, List.map_nil, List.replicate, List.cons_append, List.nil_append, List.append_nil, Option.map_some, Option.map_none, Option.bind_some, Option.bind_none, List.append_assoc, Bool.true_and, Bool.and_true, Bool.false_and, Bool.and_false, i1, i2, tk]
        exact ⟨h0', h1', d0', d1', _, H', rfl⟩
      · rintro e ⟨h0, h1, d0, d1, s9, H, rfl⟩
        exact ⟨h0, h1, d0, d1, _, s9, H, rfl⟩
    · rintro e ⟨h0, h1, d0, d1, s7, s9, H, rfl⟩
      simp (disch := omega) only [Q.evs, Nat.reduceAdd, Nat.reduceSub, Nat.reduceLeDiff, Nat.reduceLT, Nat.reduceEqDiff, Int.reducePow, Int.reduceToNat, Int.reduceAdd, Int.reduceMul, Int.reduceNeg, Int.reduceSub, Int.reduceLT, Int.reduceLE, decide_eq_true_eq, Bool.or_false, Bool.or_true, Bool.false_or, Bool.true_or, Bool.not_true, Bool.not_false, Bool.not_eq_true, decide_eq_false_iff_not, Bool.not_eq_eq_eq_not, decide_true, decide_false, ↓reduceIte, if_pos, if_neg, Bool.false_eq_true, and_self, and_true, true_and, List.getElem?_cons_zero, List.getElem?_cons_succ, List.set_cons_zero, List.set_cons_succ, List.length_cons, List.length_nil, List.length_map, List.map_cons, List.map_nil, List.replicate, List.cons_append, List.nil_append, List.append_nil, Option.map_some, Option.map_none, Option.bind_some, Option.bind_none, List.append_assoc, Bool.true_and, Bool.and_true, Bool.false_and, Bool.and_false]
      exact ⟨_, _, rfl⟩

end Ma

set_option Elab.async false
set_option linter.all false
set_option maxRecDepth 100000
set_option maxHeartbeats 8000000
namespace Wk
open PySem PySem.Spec PyProof.Rows L2 QW
open Q (D R)
def top (i : Nat) : Stmt := PySem.Challenge.pw_armswing_k61_heaps.main.body.getD i (.Pass ⟨0, 0, 0, 0⟩)
abbrev s_heap_put : Stmt := top 1
abbrev N_heap_put : List Str := ["heap", "thing", "at", "above", "kept"]
theorem sc_heap_put : FnScope N_heap_put ["heap", "thing"] (defScope s_heap_put) := ⟨rfl, rfl, rfl, by decide +kernel, rfl, by decide +kernel, by decide +kernel⟩
abbrev s_l_cell_at : Stmt := top 5
abbrev N_l_cell_at : List Str := ["script", "k"]
theorem sc_l_cell_at : FnScope N_l_cell_at ["script", "k"] (defScope s_l_cell_at) := ⟨rfl, rfl, rfl, by decide +kernel, rfl, by decide +kernel, by decide +kernel⟩
abbrev s_l_stream : Stmt := top 6
abbrev N_l_stream : List Str := ["cell", "many", "found", "number", "k"]
theorem sc_l_stream : FnScope N_l_stream ["cell", "many"] (defScope s_l_stream) := ⟨rfl, rfl, rfl, by decide +kernel, rfl, by decide +kernel, by decide +kernel⟩
abbrev s_l_thing : Stmt := top 7
abbrev N_l_thing : List Str := ["cell", "kind", "xs", "far", "k"]
theorem sc_l_thing : FnScope N_l_thing ["cell", "kind"] (defScope s_l_thing) := ⟨rfl, rfl, rfl, by decide +kernel, rfl, by decide +kernel, by decide +kernel⟩
abbrev s_least_below : Stmt := top 2
abbrev N_least_below : List Str := ["heap", "at", "least", "below"]
theorem sc_least_below : FnScope N_least_below ["heap", "at"] (defScope s_least_below) := ⟨rfl, rfl, rfl, by decide +kernel, rfl, by decide +kernel, by decide +kernel⟩
abbrev s_heap_take : Stmt := top 3
abbrev N_heap_take : List Str := ["heap", "thing", "last", "at", "least", "kept"]
theorem sc_heap_take : FnScope N_heap_take ["heap"] (defScope s_heap_take) := ⟨rfl, rfl, rfl, by decide +kernel, rfl, by decide +kernel, by decide +kernel⟩
abbrev s_l_taken : Stmt := top 8
abbrev N_l_taken : List Str := ["heap", "due", "found", "least"]
theorem sc_l_taken : FnScope N_l_taken ["heap", "due"] (defScope s_l_taken) := ⟨rfl, rfl, rfl, by decide +kernel, rfl, by decide +kernel, by decide +kernel⟩
abbrev s_law : Stmt := top 9
abbrev N_law : List Str := ["script", "number", "kind", "heaps", "dues", "cells", "cell", "at", "thing", "k"]
theorem sc_law : FnScope N_law ["script"] (defScope s_law) := ⟨rfl, rfl, rfl, by decide +kernel, rfl, by decide +kernel, by decide +kernel⟩
structure Tx (K : PySem.W.Frag) (mg : Str → Option Value) where
  f_heap_put : Addr
  fd_heap_put : FuncData
  F_heap_put : FunQ K "heap_put" "heap_put" s_heap_put f_heap_put fd_heap_put
  b_heap_put : Binds K fd_heap_put ["heap", "thing"] []
  m_heap_put : mg "heap_put" = some (.ref f_heap_put)
  k_heap_put : PySem.W.keepIn K (.ref f_heap_put) = true
  f_l_cell_at : Addr
  fd_l_cell_at : FuncData
  F_l_cell_at : FunQ K "_law_cell_at" "_law_cell_at" s_l_cell_at f_l_cell_at fd_l_cell_at
  b_l_cell_at : Binds K fd_l_cell_at ["script", "k"] []
  m_l_cell_at : mg "_law_cell_at" = some (.ref f_l_cell_at)
  k_l_cell_at : PySem.W.keepIn K (.ref f_l_cell_at) = true
  f_l_stream : Addr
  fd_l_stream : FuncData
  F_l_stream : FunQ K "_law_stream" "_law_stream" s_l_stream f_l_stream fd_l_stream
  b_l_stream : Binds K fd_l_stream ["cell", "many"] []
  m_l_stream : mg "_law_stream" = some (.ref f_l_stream)
  k_l_stream : PySem.W.keepIn K (.ref f_l_stream) = true
  f_l_thing : Addr
  fd_l_thing : FuncData
  F_l_thing : FunQ K "_law_thing" "_law_thing" s_l_thing f_l_thing fd_l_thing
  b_l_thing : Binds K fd_l_thing ["cell", "kind"] []
  m_l_thing : mg "_law_thing" = some (.ref f_l_thing)
  k_l_thing : PySem.W.keepIn K (.ref f_l_thing) = true
  f_least_below : Addr
  fd_least_below : FuncData
  F_least_below : FunQ K "least_below" "least_below" s_least_below f_least_below fd_least_below
  b_least_below : Binds K fd_least_below ["heap", "at"] []
  m_least_below : mg "least_below" = some (.ref f_least_below)
  k_least_below : PySem.W.keepIn K (.ref f_least_below) = true
  f_heap_take : Addr
  fd_heap_take : FuncData
  F_heap_take : FunQ K "heap_take" "heap_take" s_heap_take f_heap_take fd_heap_take
  b_heap_take : Binds K fd_heap_take ["heap"] []
  m_heap_take : mg "heap_take" = some (.ref f_heap_take)
  k_heap_take : PySem.W.keepIn K (.ref f_heap_take) = true
  f_l_taken : Addr
  fd_l_taken : FuncData
  F_l_taken : FunQ K "_law_taken" "_law_taken" s_l_taken f_l_taken fd_l_taken
  b_l_taken : Binds K fd_l_taken ["heap", "due"] []
  m_l_taken : mg "_law_taken" = some (.ref f_l_taken)
  k_l_taken : PySem.W.keepIn K (.ref f_l_taken) = true
  f_law : Addr
  fd_law : FuncData
  F_law : FunQ K "law" "law" s_law f_law fd_law
  b_law : Binds K fd_law ["script"] []
  m_law : mg "law" = some (.ref f_law)
  k_law : PySem.W.keepIn K (.ref f_law) = true
  n_isinstance : mg "isinstance" = none
  n_len : mg "len" = none
  n_min : mg "min" = none
  n_range : mg "range" = none
  n_tuple : mg "tuple" = none
variable {K : PySem.W.Frag} {mg : Str → Option Value}
def cfg (T : Tx K mg) : Cfg where
  K := K
  cls := fun c => match c with
    | _ => 0
  names := fun c => match c with
    | _ => []
variable {P : Program} {w : World} {base : Heap}
theorem ok_heap_put (T : Tx K mg) : FnOk P w (cfg T).K mg base (L2.CX P w) 1 T.f_heap_put T.fd_heap_put ["heap", "thing"] (spF (cfg T) 2 Ev.heap_put) :=
  (fnQ (G := cfg T) (N := N_heap_put) (ev := Ev.b_heap_put) T.F_heap_put sc_heap_put (by decide) (fun cdv A outer s H E hr => by
    exact (s_cons (s_appP (q_var 0) (q_var 1))
      (s_cons (s_set (i := 2) sc_heap_put.nd (q_bin op_sub od_sub (q_call1 call_len cd_len T.n_len PySem.boot_len (q_var 0)) (q_int)))
      (s_one (s_while (N := 1000000) (passes_of rfl) (PW.pt (q_tand (q_tcmp op_gt od_gt (q_var 2) (q_int)) (q_tand1 (q_tcmp (op_ltN hr.units) od_ltN (q_idx rfl (q_var 0) (q_var 2)) (q_idx rfl (q_var 0) (q_bin op_fdivW od_div (q_bin op_sub od_sub (q_var 2) (q_int)) (q_int))))))) (s_cons (s_set (i := 3) sc_heap_put.nd (q_bin op_fdivW od_div (q_bin op_sub od_sub (q_var 2) (q_int)) (q_int)))
      (s_cons (s_set (i := 4) sc_heap_put.nd (q_idx rfl (q_var 0) (q_var 3)))
      (s_cons (s_putP (q_var 0) (q_idx rfl (q_var 0) (q_var 2)) (q_var 3))
      (s_cons (s_putP (q_var 0) (q_var 4) (q_var 2))
      (s_one (s_set (i := 2) sc_heap_put.nd (q_var 3)))))))))))))
theorem ok_l_cell_at (T : Tx K mg) : FnOk P w (cfg T).K mg base (L2.CX P w) 1 T.f_l_cell_at T.fd_l_cell_at ["script", "k"] (spF (cfg T) 2 Ev.l_cell_at) :=
  (fnQ (G := cfg T) (N := N_l_cell_at) (ev := Ev.b_l_cell_at) T.F_l_cell_at sc_l_cell_at (by decide) (fun cdv A outer s H E hr => by
    exact (s_cons (s_if (q_tcmp op_lt od_lt (q_var 1) (q_call1 call_len cd_len T.n_len PySem.boot_len (q_var 0))) (s_one (s_ret (q_idx rfl (q_var 0) (q_var 1)))) s_nil)
      (s_one (s_ret (q_int))))))
theorem ok_l_stream (T : Tx K mg) : FnOk P w (cfg T).K mg base (L2.CX P w) 1 T.f_l_stream T.fd_l_stream ["cell", "many"] (spF (cfg T) 2 Ev.l_stream) :=
  (fnQ (G := cfg T) (N := N_l_stream) (ev := Ev.b_l_stream) T.F_l_stream sc_l_stream (by decide) (fun cdv A outer s H E hr => by
    exact (s_cons (s_hot (i := 2) sc_l_stream.nd (q_lst q_anil))
      (s_cons (s_set (i := 3) sc_l_stream.nd (q_bin op_add od_add (q_bin op_mod od_mod (q_var 0) (q_int)) (q_int)))
      (s_cons (s_for (passes_of rfl) rfl (q_irng1 (W := wE E) T.n_range (q_bin op_add od_add (q_var 1) (q_int))) (q_nm 4 sc_l_stream.nd) (s_cons (s_set (i := 3) sc_l_stream.nd (q_bin op_mod od_mod (q_bin op_add od_add (q_bin op_add od_add (q_bin op_mulW od_mul (q_var 3) (q_var 3)) (q_bin op_mulW od_mul (q_int) (q_var 3))) (q_var 4)) (q_int)))
      (s_one (s_app (i := 2) (q_var 3)))))
      (s_ghost (s_one (s_ret (q_slice rfl (q_var 2) (q_osome (W := wE E) (q_int)) q_onone)))))))))
theorem ok_l_thing (T : Tx K mg) : FnOk P w (cfg T).K mg base (L2.CX P w) 2 T.f_l_thing T.fd_l_thing ["cell", "kind"] (spF (cfg T) 2 Ev.l_thing) :=
  (fnQ (G := cfg T) (N := N_l_thing) (ev := Ev.b_l_thing) T.F_l_thing sc_l_thing (by decide) (fun cdv A outer s H E hr => by
    exact (s_cons (s_set (i := 2) sc_l_thing.nd (q_call (ok_l_stream T) (hr.mono (by decide)) T.m_l_stream T.k_l_stream T.b_l_stream (takes_of rfl rfl rfl rfl) (q_acons (q_var 0) (q_acons (q_int) q_anil))))
      (s_cons (s_if (q_tcmp op_eq od_eq (q_var 1) (q_int)) (s_one (s_ret (q_tup (q_acons (q_bin op_mod od_mod (q_idx rfl (q_var 2) (q_int)) (q_int)) (q_acons (q_tupOf rfl T.n_tuple (q_lc rfl sc_l_thing.nd (q_irng1 (W := wE E) T.n_range (q_bin op_mod od_mod (q_idx rfl (q_var 2) (q_int)) (q_int))) (blkOk_by (own := [("k", 4)]) (N := N_l_thing) (sc := defScope s_l_thing) (by decide +kernel)) (fun _ _ _ _ _ => (q_nm 4 sc_l_thing.nd)) (fun _ _ _ _ _ => q_ptsnil) (fun _ _ _ _ _ => (q_bin op_mod od_mod (q_idx rfl (q_var 2) (q_bin op_add od_add (q_int) (q_var 4))) (q_int))))) (q_acons (q_bin op_mod od_mod (q_idx rfl (q_var 2) (q_int)) (q_int)) q_anil)))))) s_nil)
      (s_cons (s_set (i := 3) sc_l_thing.nd (q_bin op_sub od_sub (q_bin op_mod od_mod (q_var 0) (q_bin op_add od_add (q_bin op_mulW od_mul (q_int) (q_bin op_pow od_pow (q_int) (q_int))) (q_int))) (q_bin op_pow od_pow (q_int) (q_int))))
      (s_one (s_ret (q_tup (q_acons (q_var 3) (q_acons (q_tupOf rfl T.n_tuple (q_lc rfl sc_l_thing.nd (q_irng1 (W := wE E) T.n_range (q_bin op_mod od_mod (q_idx rfl (q_var 2) (q_int)) (q_int))) (blkOk_by (own := [("k", 4)]) (N := N_l_thing) (sc := defScope s_l_thing) (by decide +kernel)) (fun _ _ _ _ _ => (q_nm 4 sc_l_thing.nd)) (fun _ _ _ _ _ => q_ptsnil) (fun _ _ _ _ _ => (q_bin op_mod od_mod (q_idx rfl (q_var 2) (q_bin op_add od_add (q_int) (q_var 4))) (q_int))))) (q_acons (q_bin op_sub od_sub (q_idx rfl (q_var 2) (q_int)) (q_bin op_pow od_pow (q_int) (q_int))) q_anil)))))))))))
theorem ok_least_below (T : Tx K mg) : FnOk P w (cfg T).K mg base (L2.CX P w) 1 T.f_least_below T.fd_least_below ["heap", "at"] (spF (cfg T) 2 Ev.least_below) :=
  (fnQ (G := cfg T) (N := N_least_below) (ev := Ev.b_least_below) T.F_least_below sc_least_below (by decide) (fun cdv A outer s H E hr => by
    exact (s_cons (s_set (i := 2) sc_least_below.nd (q_var 1))
      (s_cons (s_for (passes_of rfl) rfl (q_itup (W := wE E) rfl (q_tup (q_acons (q_bin op_add od_add (q_bin op_mulW od_mul (q_int) (q_var 1)) (q_int)) (q_acons (q_bin op_add od_add (q_bin op_mulW od_mul (q_int) (q_var 1)) (q_int)) q_anil)))) (q_nm 3 sc_least_below.nd) (s_one (s_if (PW.pt (q_tand (q_tcmp op_lt od_lt (q_var 3) (q_call1 call_len cd_len T.n_len PySem.boot_len (q_var 0))) (q_tand1 (q_tcmp (op_ltN hr.units) od_ltN (q_idx rfl (q_var 0) (q_var 3)) (q_idx rfl (q_var 0) (q_var 2)))))) (s_one (s_set (i := 2) sc_least_below.nd (q_var 3))) s_nil)))
      (s_one (s_ret (q_var 2)))))))
theorem ok_heap_take (T : Tx K mg) : FnOk P w (cfg T).K mg base (L2.CX P w) 2 T.f_heap_take T.fd_heap_take ["heap"] (spF (cfg T) 1 Ev.heap_take) :=
  (fnQ (G := cfg T) (N := N_heap_take) (ev := Ev.b_heap_take) T.F_heap_take sc_heap_take (by decide) (fun cdv A outer s H E hr => by
    exact (s_cons (s_if (q_tcmp op_eq od_eq (q_call1 call_len cd_len T.n_len PySem.boot_len (q_var 0)) (q_int)) (s_one (s_ret (q_non))) s_nil)
      (s_cons (s_set (i := 1) sc_heap_take.nd (q_idx rfl (q_var 0) (q_int)))
      (s_cons (s_set (i := 2) sc_heap_take.nd (q_popP (q_var 0)))
      (s_cons (s_if (q_tcmp op_gt od_gt (q_call1 call_len cd_len T.n_len PySem.boot_len (q_var 0)) (q_int)) (s_cons (s_putP (q_var 0) (q_var 2) (q_int))
      (s_cons (s_set (i := 3) sc_heap_take.nd (q_int))
      (s_cons (s_set (i := 4) sc_heap_take.nd (q_call (ok_least_below T) (hr.mono (by decide)) T.m_least_below T.k_least_below T.b_least_below (takes_of rfl rfl rfl rfl) (q_acons (q_var 0) (q_acons (q_var 3) q_anil))))
      (s_one (s_while (N := 1000000) (passes_of rfl) (q_tcmp op_ne od_ne (q_var 4) (q_var 3)) (s_cons (s_set (i := 5) sc_heap_take.nd (q_idx rfl (q_var 0) (q_var 4)))
      (s_cons (s_putP (q_var 0) (q_idx rfl (q_var 0) (q_var 3)) (q_var 4))
      (s_cons (s_putP (q_var 0) (q_var 5) (q_var 3))
      (s_cons (s_set (i := 3) sc_heap_take.nd (q_var 4))
      (s_one (s_set (i := 4) sc_heap_take.nd (q_call (ok_least_below T) (hr.mono (by decide)) T.m_least_below T.k_least_below T.b_least_below (takes_of rfl rfl rfl rfl) (q_acons (q_var 0) (q_acons (q_var 3) q_anil)))))))))))))) s_nil)
      (s_one (s_ret (q_var 1)))))))))
theorem ok_l_taken (T : Tx K mg) : FnOk P w (cfg T).K mg base (L2.CX P w) 3 T.f_l_taken T.fd_l_taken ["heap", "due"] (spF (cfg T) 2 Ev.l_taken) :=
  (fnQ (G := cfg T) (N := N_l_taken) (ev := Ev.b_l_taken) T.F_l_taken sc_l_taken (by decide) (fun cdv A outer s H E hr => by
    exact (s_cons (s_set (i := 2) sc_l_taken.nd (q_call (ok_heap_take T) (hr.mono (by decide)) T.m_heap_take T.k_heap_take T.b_heap_take (takes_of rfl rfl rfl rfl) (q_acons (q_var 0) q_anil)))
      (s_cons (s_if (q_tcmp (op_eqE hr.units) od_eqE (q_var 1) (q_lst q_anil)) (s_one (s_ret (q_isN (q_var 2)))) s_nil)
      (s_cons (s_set (i := 3) sc_l_taken.nd (q_minN rfl rfl (rm65 hr) T.n_min (q_var 1)))
      (s_cons (s_remP rfl (rm65 hr) (q_var 1) (q_var 3))
      (s_one (s_ret ((q_and (q_isi isq_tup rfl T.n_isinstance T.n_tuple (q_var 2)) (q_and1 (q_cmp (op_eqD hr.units) od_eqP (q_var 2) (q_var 3)))))))))))))
theorem ok_law (T : Tx K mg) : FnOk P w (cfg T).K mg base (L2.CX P w) 4 T.f_law T.fd_law ["script"] (spF (cfg T) 1 Ev.law) :=
  (fnQ (G := cfg T) (N := N_law) (ev := Ev.b_law) T.F_law sc_law (by decide) (fun cdv A outer s H E hr => by
    exact (s_cons (s_set (i := 1) sc_law.nd (q_call (ok_l_cell_at T) (hr.mono (by decide)) T.m_l_cell_at T.k_l_cell_at T.b_l_cell_at (takes_of rfl rfl rfl rfl) (q_acons (q_var 0) (q_acons (q_int) q_anil))))
      (s_cons (s_set (i := 2) sc_law.nd (q_bin op_mod od_mod (q_var 1) (q_int)))
      (s_cons (s_set (i := 3) sc_law.nd (q_lst (q_acons (q_nw (q_lst q_anil)) (q_acons (q_nw (q_lst q_anil)) q_anil))))
      (s_cons (s_set (i := 4) sc_law.nd (q_lst (q_acons (q_nw (q_lst q_anil)) (q_acons (q_nw (q_lst q_anil)) q_anil))))
      (s_cons (s_set (i := 5) sc_law.nd (q_cat (q_call (ok_l_stream T) (hr.mono (by decide)) T.m_l_stream T.k_l_stream T.b_l_stream (takes_of rfl rfl rfl rfl) (q_acons (q_var 1) (q_acons (q_bin op_mod od_mod (q_bin op_fdivW od_div (q_var 1) (q_int)) (q_int)) q_anil))) (q_slice rfl (q_var 0) q_onone (q_osome (W := wE E) (q_int)))))
      (s_cons (s_for (passes_of rfl) rfl (q_ilst (W := wE E) rfl (q_var 5)) (q_nm 6 sc_law.nd) (s_cons (s_set (i := 7) sc_law.nd (q_bin op_mod od_mod (q_bin op_fdivW od_div (q_var 6) (q_int)) (q_bin op_add od_add (q_int) (q_bin op_mod od_mod (q_bin op_fdivW od_div (q_var 1) (q_int)) (q_int)))))
      (s_one (s_if (q_tcmp op_eq od_eq (q_bin op_mod od_mod (q_var 6) (q_int)) (q_int)) (s_one (s_if (q_tnot (q_tst (q_call (ok_l_taken T) (hr.mono (by decide)) T.m_l_taken T.k_l_taken T.b_l_taken (takes_of rfl rfl rfl rfl) (q_acons (q_idx rfl (q_var 3) (q_var 7)) (q_acons (q_idx rfl (q_var 4) (q_var 7)) q_anil))))) (s_one (s_ret (q_bl))) s_nil)) (s_cons (s_set (i := 8) sc_law.nd (q_call (ok_l_thing T) (hr.mono (by decide)) T.m_l_thing T.k_l_thing T.b_l_thing (takes_of rfl rfl rfl rfl) (q_acons (q_bin op_fdivW od_div (q_var 6) (q_int)) (q_acons (q_var 2) q_anil))))
      (s_cons (s_appP (q_idx rfl (q_var 4) (q_var 7)) (q_var 8))
      (s_one (s_if (q_tnotN (q_call (ok_heap_put T) (hr.mono (by decide)) T.m_heap_put T.k_heap_put T.b_heap_put (takes_of rfl rfl rfl rfl) (q_acons (q_idx rfl (q_var 3) (q_var 7)) (q_acons (q_var 8) q_anil)))) (s_one (s_ret (q_bl))) s_nil))))))))
      (s_cons (s_for (passes_of rfl) rfl (q_irng1 (W := wE E) T.n_range (q_int)) (q_nm 7 sc_law.nd) (s_one (s_for (passes_of rfl) rfl (q_irng1 (W := wE E) T.n_range (q_bin op_add od_add (q_call1 call_len cd_len T.n_len PySem.boot_len (q_idx rfl (q_var 4) (q_var 7))) (q_int))) (q_nm 9 sc_law.nd) (s_one (s_if (q_tnot (q_tst (q_call (ok_l_taken T) (hr.mono (by decide)) T.m_l_taken T.k_l_taken T.b_l_taken (takes_of rfl rfl rfl rfl) (q_acons (q_idx rfl (q_var 3) (q_var 7)) (q_acons (q_idx rfl (q_var 4) (q_var 7)) q_anil))))) (s_one (s_ret (q_bl))) s_nil)))))
      (s_one (s_ret (q_bl))))))))))))
set_option autoImplicit true
theorem all_mk {l : PySem.W.OpenLaw} {w : World} {K : PySem.W.Frag} {h : Heap} {mg : Str → Option Value} {fa : Addr}
    (hlaw : ∀ ns : List Int, ns.length ≤ 63 → ∃ c m, Ev.law [.frz ns] [] = .ok (.bl true) c m) (X : K.In h) (G : h.Ns mainGlobals mg) (hfa : mg "law" = some (.ref fa))
    (a_heap_put : PySem.W.nsIn K mainGlobals "heap_put" = some (some (.ref f_heap_put)))
    (F_heap_put : L2.Fun K "heap_put" "heap_put" s_heap_put f_heap_put fd_heap_put)
    (k_heap_put : PySem.W.keepIn K (.ref f_heap_put) = true)
    (a_l_cell_at : PySem.W.nsIn K mainGlobals "_law_cell_at" = some (some (.ref f_l_cell_at)))
    (F_l_cell_at : L2.Fun K "_law_cell_at" "_law_cell_at" s_l_cell_at f_l_cell_at fd_l_cell_at)
    (k_l_cell_at : PySem.W.keepIn K (.ref f_l_cell_at) = true)
    (a_l_stream : PySem.W.nsIn K mainGlobals "_law_stream" = some (some (.ref f_l_stream)))
    (F_l_stream : L2.Fun K "_law_stream" "_law_stream" s_l_stream f_l_stream fd_l_stream)
    (k_l_stream : PySem.W.keepIn K (.ref f_l_stream) = true)
    (a_l_thing : PySem.W.nsIn K mainGlobals "_law_thing" = some (some (.ref f_l_thing)))
    (F_l_thing : L2.Fun K "_law_thing" "_law_thing" s_l_thing f_l_thing fd_l_thing)
    (k_l_thing : PySem.W.keepIn K (.ref f_l_thing) = true)
    (a_least_below : PySem.W.nsIn K mainGlobals "least_below" = some (some (.ref f_least_below)))
    (F_least_below : L2.Fun K "least_below" "least_below" s_least_below f_least_below fd_least_below)
    (k_least_below : PySem.W.keepIn K (.ref f_least_below) = true)
    (a_heap_take : PySem.W.nsIn K mainGlobals "heap_take" = some (some (.ref f_heap_take)))
    (F_heap_take : L2.Fun K "heap_take" "heap_take" s_heap_take f_heap_take fd_heap_take)
    (k_heap_take : PySem.W.keepIn K (.ref f_heap_take) = true)
    (a_l_taken : PySem.W.nsIn K mainGlobals "_law_taken" = some (some (.ref f_l_taken)))
    (F_l_taken : L2.Fun K "_law_taken" "_law_taken" s_l_taken f_l_taken fd_l_taken)
    (k_l_taken : PySem.W.keepIn K (.ref f_l_taken) = true)
    (a_law : PySem.W.nsIn K mainGlobals "law" = some (some (.ref f_law)))
    (F_law : L2.Fun K "law" "law" s_law f_law fd_law)
    (k_law : PySem.W.keepIn K (.ref f_law) = true)
    (z_isinstance : PySem.W.nsIn K mainGlobals "isinstance" = some none)
    (z_len : PySem.W.nsIn K mainGlobals "len" = some none)
    (z_min : PySem.W.nsIn K mainGlobals "min" = some none)
    (z_range : PySem.W.nsIn K mainGlobals "range" = some none)
    (z_tuple : PySem.W.nsIn K mainGlobals "tuple" = some none) :
    ∃ fd, (∀ s v, BindsTo s fd ⟨[v], []⟩ [("script", v)]) ∧ ∀ base, K.In base → base.Ns mainGlobals mg → FnOk l.prog w K mg base (L2.CX l.prog w) 4 fa fd ["script"] (spLaw K) := by
  have e := hfa.symm.trans (PySem.W.mg_of X G a_law); cases e
  have b_heap_put := F_heap_put.binds (ps := ["heap", "thing"]) fun _ _ _ _ _ _ us hl => match us, hl with | [_, _], _ => rfl
  have b_l_cell_at := F_l_cell_at.binds (ps := ["script", "k"]) fun _ _ _ _ _ _ us hl => match us, hl with | [_, _], _ => rfl
  have b_l_stream := F_l_stream.binds (ps := ["cell", "many"]) fun _ _ _ _ _ _ us hl => match us, hl with | [_, _], _ => rfl
  have b_l_thing := F_l_thing.binds (ps := ["cell", "kind"]) fun _ _ _ _ _ _ us hl => match us, hl with | [_, _], _ => rfl
  have b_least_below := F_least_below.binds (ps := ["heap", "at"]) fun _ _ _ _ _ _ us hl => match us, hl with | [_, _], _ => rfl
  have b_heap_take := F_heap_take.binds (ps := ["heap"]) fun _ _ _ _ _ _ us hl => match us, hl with | [_], _ => rfl
  have b_l_taken := F_l_taken.binds (ps := ["heap", "due"]) fun _ _ _ _ _ _ us hl => match us, hl with | [_, _], _ => rfl
  have b_law := F_law.binds (ps := ["script"]) fun _ _ _ _ _ _ us hl => match us, hl with | [_], _ => rfl
  obtain ⟨_, _, _, _, _, _, _, _, _, efd, _, _⟩ := F_law.ex
  subst efd
  let T : Tx K mg := {
    f_heap_put := f_heap_put
    fd_heap_put := _
    F_heap_put := F_heap_put.q
    b_heap_put := b_heap_put
    m_heap_put := PySem.W.mg_of X G a_heap_put
    k_heap_put := k_heap_put
    f_l_cell_at := f_l_cell_at
    fd_l_cell_at := _
    F_l_cell_at := F_l_cell_at.q
    b_l_cell_at := b_l_cell_at
    m_l_cell_at := PySem.W.mg_of X G a_l_cell_at
    k_l_cell_at := k_l_cell_at
    f_l_stream := f_l_stream
    fd_l_stream := _
    F_l_stream := F_l_stream.q
    b_l_stream := b_l_stream
    m_l_stream := PySem.W.mg_of X G a_l_stream
    k_l_stream := k_l_stream
    f_l_thing := f_l_thing
    fd_l_thing := _
    F_l_thing := F_l_thing.q
    b_l_thing := b_l_thing
    m_l_thing := PySem.W.mg_of X G a_l_thing
    k_l_thing := k_l_thing
    f_least_below := f_least_below
    fd_least_below := _
    F_least_below := F_least_below.q
    b_least_below := b_least_below
    m_least_below := PySem.W.mg_of X G a_least_below
    k_least_below := k_least_below
    f_heap_take := f_heap_take
    fd_heap_take := _
    F_heap_take := F_heap_take.q
    b_heap_take := b_heap_take
    m_heap_take := PySem.W.mg_of X G a_heap_take
    k_heap_take := k_heap_take
    f_l_taken := f_l_taken
    fd_l_taken := _
    F_l_taken := F_l_taken.q
    b_l_taken := b_l_taken
    m_l_taken := PySem.W.mg_of X G a_l_taken
    k_l_taken := k_l_taken
    f_law := f_law
    fd_law := _
    F_law := F_law.q
    b_law := b_law
    m_law := PySem.W.mg_of X G a_law
    k_law := k_law
    n_isinstance := PySem.W.mg_none_of X G z_isinstance
    n_len := PySem.W.mg_none_of X G z_len
    n_min := PySem.W.mg_none_of X G z_min
    n_range := PySem.W.mg_none_of X G z_range
    n_tuple := PySem.W.mg_none_of X G z_tuple }
  exact ⟨_, fun s v => .of_eq rfl, fun base _ _ => law_end (ok_law T) hlaw⟩
end Wk

set_option Elab.async false
set_option linter.all false
set_option maxRecDepth 100000
set_option maxHeartbeats 0
namespace Hd
open PySem PySem.Spec PyProof.Rows L2
abbrev R : PySem.W.OpenRow := PySem.W.OpenLaw.row PySem.Challenge.rw_armswing_k61_heaps
abbrev qv : Program := PySem.W.view R.prog [9]
def names : List Str := (["__name__", "heap_put", "least_below", "heap_take", "_law_cell_at", "_law_stream", "_law_thing", "_law_taken"] : List Str)
abbrev d0 : He.DefD := ⟨("heap_put", none), "heap_put", "heap_put", defArgs Wk.s_heap_put, defBody Wk.s_heap_put, defScope Wk.s_heap_put, [], []⟩
abbrev d1 : He.DefD := ⟨("_law_cell_at", none), "_law_cell_at", "_law_cell_at", defArgs Wk.s_l_cell_at, defBody Wk.s_l_cell_at, defScope Wk.s_l_cell_at, [], []⟩
abbrev d2 : He.DefD := ⟨("_law_stream", none), "_law_stream", "_law_stream", defArgs Wk.s_l_stream, defBody Wk.s_l_stream, defScope Wk.s_l_stream, [], []⟩
abbrev d3 : He.DefD := ⟨("_law_thing", none), "_law_thing", "_law_thing", defArgs Wk.s_l_thing, defBody Wk.s_l_thing, defScope Wk.s_l_thing, [], []⟩
abbrev d4 : He.DefD := ⟨("least_below", none), "least_below", "least_below", defArgs Wk.s_least_below, defBody Wk.s_least_below, defScope Wk.s_least_below, [], []⟩
abbrev d5 : He.DefD := ⟨("heap_take", none), "heap_take", "heap_take", defArgs Wk.s_heap_take, defBody Wk.s_heap_take, defScope Wk.s_heap_take, [], []⟩
abbrev d6 : He.DefD := ⟨("_law_taken", none), "_law_taken", "_law_taken", defArgs Wk.s_l_taken, defBody Wk.s_l_taken, defScope Wk.s_l_taken, [], []⟩
abbrev d7 : He.DefD := ⟨("law", none), "law", "law", defArgs Wk.s_law, defBody Wk.s_law, defScope Wk.s_law, [], []⟩
def fn0 : List He.DefD := [d0, d1, d2, d3, d4, d5, d6, d7]
def fn : List (List He.DefD) := [fn0]
abbrev p0 (K : PySem.W.Frag) : Prop := PySem.W.nsIn K mainGlobals "heap_put" = some (some (.ref (He.fAd K ("heap_put", none))))
abbrev p1 (K : PySem.W.Frag) : Prop := PySem.W.nsIn K mainGlobals "_law_cell_at" = some (some (.ref (He.fAd K ("_law_cell_at", none))))
abbrev p2 (K : PySem.W.Frag) : Prop := PySem.W.nsIn K mainGlobals "_law_stream" = some (some (.ref (He.fAd K ("_law_stream", none))))
abbrev p3 (K : PySem.W.Frag) : Prop := PySem.W.nsIn K mainGlobals "_law_thing" = some (some (.ref (He.fAd K ("_law_thing", none))))
abbrev p4 (K : PySem.W.Frag) : Prop := PySem.W.nsIn K mainGlobals "least_below" = some (some (.ref (He.fAd K ("least_below", none))))
abbrev p5 (K : PySem.W.Frag) : Prop := PySem.W.nsIn K mainGlobals "heap_take" = some (some (.ref (He.fAd K ("heap_take", none))))
abbrev p6 (K : PySem.W.Frag) : Prop := PySem.W.nsIn K mainGlobals "_law_taken" = some (some (.ref (He.fAd K ("_law_taken", none))))
abbrev p7 (K : PySem.W.Frag) : Prop := PySem.W.nsIn K mainGlobals "law" = some (some (.ref (He.fAd K ("law", none))))
abbrev p8 (K : PySem.W.Frag) : Prop := PySem.W.nsIn K mainGlobals "isinstance" = some none
abbrev p9 (K : PySem.W.Frag) : Prop := PySem.W.nsIn K mainGlobals "len" = some none
abbrev p10 (K : PySem.W.Frag) : Prop := PySem.W.nsIn K mainGlobals "min" = some none
abbrev p11 (K : PySem.W.Frag) : Prop := PySem.W.nsIn K mainGlobals "range" = some none
abbrev p12 (K : PySem.W.Frag) : Prop := PySem.W.nsIn K mainGlobals "tuple" = some none
def ex0 : List QH.Ask1 := ([fun K => decide (p0 K), fun K => decide (p1 K), fun K => decide (p2 K), fun K => decide (p3 K), fun K => decide (p4 K), fun K => decide (p5 K), fun K => decide (p6 K), fun K => decide (p7 K), fun K => decide (p8 K), fun K => decide (p9 K), fun K => decide (p10 K), fun K => decide (p11 K), fun K => decide (p12 K)] : List QH.Ask1)
def ex : List (List QH.Ask1) := [ex0]
theorem rb (w : World) : HandSHeadRun.RunEq R qv PySem.W.Hook.none (fun _ => ()) 60000 names w := by
  intro os
  kernel_rfl
theorem re0 (w : World) : QH.Shows R 60000 w (fun t => ex0.all fun f => f (QH.part_ 6 (HandSHeadRun.getT t))) true := by
  intro os
  kernel_rfl
theorem rf0 (w : World) : QH.Shows R 60000 w (fun t => He.obsD [] fn0 (QH.part_ 6 (HandSHeadRun.getT t))) (He.valD fn0) := by
  intro os
  kernel_rfl
theorem run (w : World) : HandSHeadRun.RunEq R qv (QH.hk 6 fn ex) (fun t => QH.told 6 fn ex (HandSHeadRun.getT t)) 60000 names w := QH.run_join (rb w) (QH.Shows.pair ((re0 w).cons ((re0 w).nil)) ((rf0 w).cons ((rf0 w).nil)))
theorem facts {w : World} {K : PySem.W.Frag} {h : Heap} {mg : Str → Option Value} {fa : Addr} (X : K.In h) (G : h.Ns mainGlobals mg) (hfa : mg "law" = some (.ref fa)) (c : QH.seen fn ex K = QH.want fn ex) :
    ∃ fd, (∀ s v, BindsTo s fd ⟨[v], []⟩ [("script", v)]) ∧ ∀ base, K.In base → base.Ns mainGlobals mg → FnOk PySem.Challenge.rw_armswing_k61_heaps.prog w K mg base (L2.CX PySem.Challenge.rw_armswing_k61_heaps.prog w) 4 fa fd ["script"] (QW.spLaw K) := by
  obtain ⟨fd0, D0⟩ := QH.def_ c 0 0 (e := fn0) (d := d0) rfl rfl
  obtain ⟨fd1, D1⟩ := QH.def_ c 0 1 (e := fn0) (d := d1) rfl rfl
  obtain ⟨fd2, D2⟩ := QH.def_ c 0 2 (e := fn0) (d := d2) rfl rfl
  obtain ⟨fd3, D3⟩ := QH.def_ c 0 3 (e := fn0) (d := d3) rfl rfl
  obtain ⟨fd4, D4⟩ := QH.def_ c 0 4 (e := fn0) (d := d4) rfl rfl
  obtain ⟨fd5, D5⟩ := QH.def_ c 0 5 (e := fn0) (d := d5) rfl rfl
  obtain ⟨fd6, D6⟩ := QH.def_ c 0 6 (e := fn0) (d := d6) rfl rfl
  obtain ⟨fd7, D7⟩ := QH.def_ c 0 7 (e := fn0) (d := d7) rfl rfl
  have a_heap_put : p0 K := of_decide_eq_true (QH.fact c 0 0 (e := ex0) (f := fun K => decide (p0 K)) rfl rfl)
  have a_l_cell_at : p1 K := of_decide_eq_true (QH.fact c 0 1 (e := ex0) (f := fun K => decide (p1 K)) rfl rfl)
  have a_l_stream : p2 K := of_decide_eq_true (QH.fact c 0 2 (e := ex0) (f := fun K => decide (p2 K)) rfl rfl)
  have a_l_thing : p3 K := of_decide_eq_true (QH.fact c 0 3 (e := ex0) (f := fun K => decide (p3 K)) rfl rfl)
  have a_least_below : p4 K := of_decide_eq_true (QH.fact c 0 4 (e := ex0) (f := fun K => decide (p4 K)) rfl rfl)
  have a_heap_take : p5 K := of_decide_eq_true (QH.fact c 0 5 (e := ex0) (f := fun K => decide (p5 K)) rfl rfl)
  have a_l_taken : p6 K := of_decide_eq_true (QH.fact c 0 6 (e := ex0) (f := fun K => decide (p6 K)) rfl rfl)
  have a_law : p7 K := of_decide_eq_true (QH.fact c 0 7 (e := ex0) (f := fun K => decide (p7 K)) rfl rfl)
  have z_isinstance : p8 K := of_decide_eq_true (QH.fact c 0 8 (e := ex0) (f := fun K => decide (p8 K)) rfl rfl)
  have z_len : p9 K := of_decide_eq_true (QH.fact c 0 9 (e := ex0) (f := fun K => decide (p9 K)) rfl rfl)
  have z_min : p10 K := of_decide_eq_true (QH.fact c 0 10 (e := ex0) (f := fun K => decide (p10 K)) rfl rfl)
  have z_range : p11 K := of_decide_eq_true (QH.fact c 0 11 (e := ex0) (f := fun K => decide (p11 K)) rfl rfl)
  have z_tuple : p12 K := of_decide_eq_true (QH.fact c 0 12 (e := ex0) (f := fun K => decide (p12 K)) rfl rfl)
  exact Wk.all_mk (l := PySem.Challenge.rw_armswing_k61_heaps) Ma.law_true X G hfa a_heap_put (QH.plain_ D0) D0.kp a_l_cell_at (QH.plain_ D1) D1.kp a_l_stream (QH.plain_ D2) D2.kp a_l_thing (QH.plain_ D3) D3.kp a_least_below (QH.plain_ D4) D4.kp a_heap_take (QH.plain_ D5) D5.kp a_l_taken (QH.plain_ D6) D6.kp a_law (QH.plain_ D7) D7.kp z_isinstance z_len z_min z_range z_tuple
end Hd
theorem PySem.Challenge.cw_armswing_k61_heaps_holds : PySem.Challenge.rw_armswing_k61_heaps.Holds := by
  w_on
  o_law
  refine HandSHeadRun.head_any (r := Hd.R) (q := Hd.qv) (H := QH.hk 6 Hd.fn Hd.ex) (ob := fun t => QH.told 6 Hd.fn Hd.ex (HandSHeadRun.getT t)) (M := 60000) (loose := Hd.names) (d := HandSHeadRun.topDef Hd.R.prog 9) (kwd := []) QH.told_eq (by kernel_rfl) (fun s => by kernel_rfl) Hd.run (by kernel_rfl) (by kernel_rfl) (by kernel_rfl) (by rfl) (by first | assumption | decide +kernel) (by decide +kernel) ⟨rfl, rfl, rfl, rfl, rfl, by decide +kernel⟩ ?hw ?hc
  case hw => w_witness2
  case hc =>
    refine QH.end_of (l := PySem.Challenge.rw_armswing_k61_heaps) (n := 63) (k := 4) (x := "script") (CX := fun v => L2.CX PySem.Challenge.rw_armswing_k61_heaps.prog v) rfl (by decide) (by kernel_rfl) ⟨rfl, by decide, by decide⟩ ?F (fun _ _ _ _ _ h => QW.cx_none h)
    intro w mg fa h Y G hm0
    obtain ⟨K, KX, c⟩ := Y
    have hm : mg ("law" : PySem.Str) = some (.ref fa) := by
      have e : (HandSHeadRun.topDef Hd.R.prog 9).name = ("law" : PySem.Str) := by kernel_rfl
      rw [← e]
      exact hm0
    obtain ⟨fd, hb, hF⟩ := Hd.facts (w := w) KX G hm c
    exact ⟨K, fd, QW.spLaw K, KX, hb, fun H a ns hl hz _ hS => ⟨a, ns, rfl, hS, hl, fun _ => rfl⟩, hF⟩
