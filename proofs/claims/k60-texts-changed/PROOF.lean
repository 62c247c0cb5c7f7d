import PyProof.Rows.All
import Wide.All
import OpenK.AllK
import Wide.FinOn
import HandS.ForMost
import PyProof.ReprRoads
import PyProof.EqLayable
import HandS.Lambda
import HandS.Walk
import HandS.Flow
import HandS.TupAny
import HandS.Style
import HandS.CallSlots
import HandS.TryMany
import HandS.ExcInit
import HandS.ExcSuper
import HandS.ExcField
import KE.KDictZip
import KE.GoesEnum
import HandS.HeadWalk
import KE.KExcSuper
import HandS.EndOwn
import PySem.Challenge.RW_leastlaid_k60_texts_changed
import KE.KSlice
set_option Elab.async false
set_option linter.all false
/-! Dz, part 1: plain data, a small language, its interpreter. Nothing of a heap stands here. -/
namespace Dz
open PySem

/-- plain data; own d: a container that one name alone holds, and that may be changed in place -/
inductive D where
  | non | bl (b : Bool) | int (i : Int) | str (s : List Nat)
  | tup (ds : List D) | lst (ds : List D) | own (d : D)
  deriving Inhabited

mutual
def D.beq : D → D → Bool
  | .non, .non => true
  | .bl a, .bl b => decide (a = b)
  | .int a, .int b => decide (a = b)
  | .str a, .str b => decide (a = b)
  | .tup a, .tup b => D.beqs a b
  | .lst a, .lst b => D.beqs a b
  | .own a, .own b => D.beq a b
  | _, _ => false
def D.beqs : List D → List D → Bool
  | [], [] => true
  | a :: as, b :: bs => D.beq a b && D.beqs as bs
  | _, _ => false
end
mutual
theorem D.beq_eq : ∀ {a b : D}, a.beq b = true → a = b
  | .non, b, h => by cases b <;> simp_all [D.beq]
  | .bl a, b, h => by cases b <;> simp_all [D.beq]
  | .int a, b, h => by cases b <;> simp_all [D.beq]
  | .str a, b, h => by cases b <;> simp_all [D.beq]
  | .tup a, b, h => by
    cases b with
    | tup b => rw [D.beq] at h; rw [D.beqs_eq h]
    | _ => simp [D.beq] at h
  | .lst a, b, h => by
    cases b with
    | lst b => rw [D.beq] at h; rw [D.beqs_eq h]
    | _ => simp [D.beq] at h
  | .own a, b, h => by
    cases b with
    | own b => rw [D.beq] at h; rw [D.beq_eq h]
    | _ => simp [D.beq] at h
theorem D.beqs_eq : ∀ {a b : List D}, D.beqs a b = true → a = b
  | [], [], _ => rfl
  | [], _ :: _, h => by simp [D.beqs] at h
  | _ :: _, [], h => by simp [D.beqs] at h
  | a :: as, b :: bs, h => by
    rw [D.beqs, Bool.and_eq_true] at h
    rw [D.beq_eq h.1, D.beqs_eq h.2]
end
mutual
theorem D.beq_self : ∀ a : D, a.beq a = true
  | .non => by rw [D.beq]
  | .bl a => by simp [D.beq]
  | .int a => by simp [D.beq]
  | .str a => by simp [D.beq]
  | .tup a => by rw [D.beq]; exact D.beqs_self a
  | .lst a => by rw [D.beq]; exact D.beqs_self a
  | .own a => by rw [D.beq]; exact D.beq_self a
theorem D.beqs_self : ∀ a : List D, D.beqs a a = true
  | [] => rfl
  | a :: as => by rw [D.beqs, D.beq_self a, D.beqs_self as]; rfl
end
instance : DecidableEq D := fun a b => decidable_of_iff (a.beq b = true) ⟨D.beq_eq, fun h => by rw [h]; exact D.beq_self b⟩
abbrev Env := List (Option D)

/-- forget that a container is owned -/
def D.fz : D → D
  | .own d => d
  | d => d
def D.isOwn : D → Bool
  | .own _ => true
  | _ => false

mutual
def D.py : D → PyData
  | .non => .none
  | .bl b => .bool b
  | .int i => .int i
  | .str s => .str ⟨s.toArray⟩
  | .tup ds => .tuple (D.pys ds)
  | .lst ds => .list (D.pys ds)
  | .own d => D.py d
def D.pys : List D → List PyData
  | [] => []
  | d :: ds => D.py d :: D.pys ds
end

/-- how an expression ends: a value, or an exception of one of the program's classes with what it bears -/
inductive Res (α : Type) where
  | ok (a : α) (env : Env)
  | exn (c : Nat) (d : D) (env : Env)
def M (α : Type) := Env → Option (Res α)
namespace M
def ret {α : Type} (a : α) : M α := fun env => some (.ok a env)
def fail {α : Type} : M α := fun _ => none
def bind {α β : Type} (m : M α) (k : α → M β) : M β := fun env =>
  match m env with
  | none => none
  | some (.exn c d env') => some (.exn c d env')
  | some (.ok a env') => k a env'
def opt {α : Type} (o : Option α) : M α := fun env => o.map fun a => .ok a env
end M
instance : Monad M where
  pure := M.ret
  bind := M.bind

inductive Op2 where | add | sub | mul | fdiv | mod | pow
  deriving DecidableEq
inductive Cm where | lt | le | gt | ge | eq | ne | in_ | nin | is_ | isn
  deriving DecidableEq

inductive Bi where | len | int | abs | min | max | tuple | repr
  deriving DecidableEq
inductive Mt where | join
  deriving DecidableEq
inductive Mu where | append
  deriving DecidableEq
mutual
/-- what a for or a comprehension stores to -/
inductive T where
  | nm (i : Nat)
  | tp (ts : Ts)
  deriving DecidableEq
inductive Ts where
  | nil
  | cons (t : T) (ts : Ts)
  deriving DecidableEq
end

mutual
inductive E where
  | cst (d : D)
  | var (i : Nat)
  | bin (o : Op2) (a b : E)
  | neg (a : E)
  | cmp (c : Cm) (a b : E)
  | and_ (a b : E)
  | or_ (a b : E)
  | not_ (a : E)
  | ite (c a b : E)
  | tup (es : Es)
  | lst (es : Es)
  | idx (a b : E)
  /-- a[lo:hi]; a part that is not written is abs -/
  | slc (a lo hi : E)
  | rev (a : E)
  | abs
  /-- a def of the program -/
  | call (f : Nat) (es : Es)
  /-- a built-in by its name -/
  | bi (f : Bi) (es : Es)
  /-- a method of a built-in type that changes nothing -/
  | meth (m : Mt) (o : E) (es : Es)
  /-- [elt for t in it if c ..]; vs: the slots that it has for itself -/
  | comp (t : T) (it : It) (cs : Es) (elt : E) (vs : List Nat)
  /-- f(lambda: e), f the law's own def that tells how a call ends -/
  | heard (f : Nat) (e : E)
  deriving DecidableEq
inductive Es where
  | nil
  | cons (e : E) (es : Es)
  deriving DecidableEq
inductive It where
  | e (a : E)
  | range1 (a : E)
  | range2 (a b : E)
  /-- enumerate(zip(a, b)), a and b texts -/
  | ezip (a b : E)
  deriving DecidableEq
end

mutual
inductive S where
  | asg (i : Nat) (e : E)
  | asgT (ts : Ts) (e : E)
  /-- a, b = x, y -/
  | par (i j : Nat) (a b : E)
  | aug (i : Nat) (o : Op2) (e : E)
  /-- x[k] = e -/
  | setIx (i : Nat) (k e : E)
  /-- x[k] op= e -/
  | augIx (i : Nat) (k : E) (o : Op2) (e : E)
  | expr (e : E)
  /-- x.m(..), a method that changes x -/
  | mut (m : Mu) (i : Nat) (es : Es)
  | ret (e : E)
  | if_ (c : E) (a b : Ss)
  | while_ (c : E) (b : Ss)
  | for_ (t : T) (it : It) (b : Ss)
  | raise_ (c : Nat) (e : E)
  | pass
  | brk
  | cont
  deriving DecidableEq
inductive Ss where
  | nil
  | cons (s : S) (ss : Ss)
  deriving DecidableEq
end

/-! ### values -/
def lim : Nat := 16777216
def truth : D → Option Bool
  | .non => some false
  | .bl b => some b
  | .int i => some (i != 0)
  | .str s => if s.length ≤ lim then some (s.length != 0) else none
  | .tup ds => some (!ds.isEmpty)
  | .lst ds => some (!ds.isEmpty)
  | .own _ => none
def shapedD (d : D) : Bool := d.py.canLay0 && decide (d.py.depth ≤ 64)
def eqD : D → D → Option Bool
  | .int i, .int j => some (decide (i = j))
  | .str s, .str t => some (decide (s = t))
  | .bl a, .bl b => some (decide (a = b))
  | a, b => if shapedD a && shapedD b then some (PyData.eqv a.py b.py) else none
/-- repr -/
def showD (d : D) : Option (List Nat) :=
  if d.py.showable && !d.py.hasDict && decide (d.py.depth ≤ 64) && decide (d.py.shown.length ≤ lim) then some d.py.shown.cps.toList else none
def small64 (i : Int) : Bool := decide (-(2 ^ 64) < i ∧ i < 2 ^ 64)
def binD : Op2 → D → D → Option D
  | .add, .int i, .int j => some (.int (i + j))
  | .sub, .int i, .int j => some (.int (i - j))
  | .mul, .int i, .int j => if small64 i || small64 j then some (.int (i * j)) else none
  | .fdiv, .int i, .int j => if j ≠ 0 ∧ j.natAbs < 1073741824 then some (.int (i.fdiv j)) else none
  | .mod, .int i, .int j => if j ≠ 0 then some (.int (i.fmod j)) else none
  | .pow, .int i, .int j => if 0 ≤ j ∧ j ≤ 1000000 ∧ i.natAbs < 2 ^ 64 then some (.int (i ^ j.toNat)) else none
  | .add, .str s, .str t => if s.length + t.length ≤ lim then some (.str (s ++ t)) else none
  | .add, .lst s, .lst t => if s.length + t.length ≤ lim then some (.own (.lst (s ++ t))) else none
  | _, _, _ => none
def cmpD : Cm → D → D → Option Bool
  | .lt, .int i, .int j => some (decide (i < j))
  | .le, .int i, .int j => some (decide (i ≤ j))
  | .gt, .int i, .int j => some (decide (j < i))
  | .ge, .int i, .int j => some (decide (j ≤ i))
  | .eq, a, b => eqD a b
  | .ne, a, b => (eqD a b).map (!·)
  | _, _, _ => none
/-- xs[lo:hi] -/
def cut {α : Type} (xs : List α) (lo hi : Option Int) : List α := (xs.drop (HT.sIx xs.length 0 lo)).take (HT.sIx xs.length xs.length hi - HT.sIx xs.length 0 lo)
def idxD : D → D → Option D
  | .lst ds, .int i => L2.atI ds i
  | .tup ds, .int i => L2.atI ds i
  | .str s, .int i => if s.length ≤ lim then (L2.atI s i).map fun c => .str [c] else none
  | _, _ => none
def part : D → Option (Option Int)
  | .int i => some (some i)
  | _ => none
def slcD : D → Option Int → Option Int → Option D
  | .str s, lo, hi => if s.length ≤ lim then some (.str (cut s lo hi)) else none
  | .lst ds, lo, hi => some (.own (.lst (cut ds lo hi)))
  | .tup ds, lo, hi => some (.tup (cut ds lo hi))
  | _, _, _ => none
def revD : D → Option D
  | .str s => if s.length ≤ lim then some (.str s.reverse) else none
  | .lst ds => some (.own (.lst ds.reverse))
  | _ => none
def intsOf : List D → Option (List Int)
  | [] => some []
  | .int i :: ds => (intsOf ds).map (i :: ·)
  | _ :: _ => none
def strsOf : List D → Option (List (List Nat))
  | [] => some []
  | .str s :: ds => (strsOf ds).map (s :: ·)
  | _ :: _ => none
def minL : List Int → Option Int
  | [] => none
  | x :: xs => some (xs.foldl (fun m y => if y < m then y else m) x)
def maxL : List Int → Option Int
  | [] => none
  | x :: xs => some (xs.foldl (fun m y => if m < y then y else m) x)
/-- a built-in, by the values of its arguments -/
def biD : Bi → List D → Option D
  | .len, [.str s] => if s.length ≤ lim then some (.int s.length) else none
  | .len, [.lst ds] => some (.int ds.length)
  | .len, [.tup ds] => some (.int ds.length)
  | .int, [.int i] => some (.int i)
  | .int, [.bl b] => some (.int (if b then 1 else 0))
  | .abs, [.int i] => some (.int (if i < 0 then -i else i))
  | .min, [.int i, .int j] => some (.int (if j < i then j else i))
  | .max, [.int i, .int j] => some (.int (if j > i then j else i))
  | .min, [.lst ds] => (intsOf ds).bind fun ns => (minL ns).map .int
  | .max, [.lst ds] => (intsOf ds).bind fun ns => (maxL ns).map .int
  | .tuple, [.lst ds] => some (.tup ds)
  | .tuple, [.tup ds] => some (.tup ds)
  | .repr, [d] => (showD d).map .str
  | _, _ => none
def methD : Mt → D → List D → Option D
  | .join, .str sep, [.lst ds] => (strsOf ds).bind fun xs => if (xs.map (·.length)).sum + xs.length * sep.length ≤ lim then some (.str (TL.joinL sep xs)) else none
  | _, _, _ => none
/-- a method that changes its object: what it gives, what the object is then -/
def mutD : Mu → D → List D → Option (D × D)
  | .append, .lst ds, [d] => if ds.length < lim then some (.non, .lst (ds ++ [d])) else none
  | _, _, _ => none
/-- what stands ahead of a loop: the items -/
def itemsD : D → Option (List D)
  | .lst ds => some ds
  | .tup ds => some ds
  | _ => none

/-! ### the interpreter -/
/-- how a def ends: its value and what its changed arguments are then -/
inductive Ans where
  | ret (d : D) (outs : List D)
  | exn (c : Nat) (d : D) (outs : List D)
/-- a def of the program: which of its parameters it may change; what it does -/
structure Fn where
  muts : List Bool
  run : List D → Option Ans
structure Sig where
  /-- the defs -/
  fn : Nat → Option Fn
  /-- what the law's own def makes of a call's end: (of a value, of an exception) -/
  told : Nat → Option ((D → D) × (Nat → D → D))
  /-- the classes of the program's exceptions -/
  exc : Nat → Bool
  /-- turns of a while -/
  fuel : Nat
  /-- slots that hold a changed parameter: never stored to -/
  pin : Nat → Bool

/-- an argument, evaluated: a value, or the name that holds what is read or changed -/
inductive Opd where
  | val (d : D)
  | pl (i : Nat)
def getV (i : Nat) : M D := fun env => match env[i]? with
  | some (some d) => some (.ok d env)
  | _ => none
def setV (i : Nat) (d : D) : M Unit := fun env => if i < env.length then some (.ok () (env.set i (some d))) else none
def Opd.get : Opd → M D
  | .val d => M.ret d
  | .pl i => fun env => match env[i]? with
    | some (some d) => some (.ok d.fz env)
    | _ => none
def gets : List Opd → M (List D)
  | [] => M.ret []
  | o :: r => M.bind o.get fun d => M.bind (gets r) fun ds => M.ret (d :: ds)
/-- arguments are handed in -/
def hand : List Opd → Env → Option (List D)
  | [], _ => some []
  | .val d :: r, env => (hand r env).map (d :: ·)
  | .pl i :: r, env => match env[i]? with
    | some (some (.own d)) => (hand r env).map (.own d :: ·)
    | _ => none
def places : List Opd → List Nat
  | [] => []
  | .val _ :: r => places r
  | .pl i :: r => i :: places r
/-- and what they are then comes back -/
def back : List Opd → List D → Env → Option Env
  | [], [], env => some env
  | .val _ :: r, _ :: ds, env => back r ds env
  | .pl i :: r, d :: ds, env => if i < env.length then back r ds (env.set i (some d)) else none
  | _, _, _ => none
def wipeE (env : Env) : List Nat → Env
  | [] => env
  | i :: r => (wipeE env r).set i none
/-- the slots vs as they were ahead -/
def restore (env0 env : Env) : List Nat → Env
  | [] => env
  | i :: r => (restore env0 env r).set i (env0.getD i none)
def pureAt (env : Env) (i : Nat) : Bool := match env[i]? with
  | some (some d) => !d.isOwn
  | some none => true
  | none => false

mutual
def asT (pin : Nat → Bool) : T → D → M Unit
  | .nm i, d => if pin i then M.fail else setV i d
  | .tp ts, .tup ds => asTs pin ts ds
  | .tp _, _ => M.fail
def asTs (pin : Nat → Bool) : Ts → List D → M Unit
  | .nil, [] => M.ret ()
  | .cons t ts, d :: ds => M.bind (asT pin t d) fun _ => asTs pin ts ds
  | _, _ => M.fail
end

mutual
def T.slots : T → List Nat
  | .nm i => [i]
  | .tp ts => ts.slots
def Ts.slots : Ts → List Nat
  | .nil => []
  | .cons t ts => t.slots ++ ts.slots
end
/-- the turns of a comprehension -/
def compGo (turn : D → M (Option D)) (vs : List Nat) (env0 : Env) : List D → List D → Env → Option (Res D)
  | [], acc, env => some (.ok (.own (.lst acc)) (restore env0 env vs))
  | d :: ds, acc, env =>
    match turn d (wipeE env vs) with
    | some (.ok (some x) env') => if acc.length < lim then compGo turn vs env0 ds (acc ++ [x]) env' else none
    | some (.ok none env') => compGo turn vs env0 ds acc env'
    | _ => none
def callF (Γ : Sig) (f : Nat) (args : List Bool → M (List Opd)) : M D :=
  match Γ.fn f with
  | none => M.fail
  | some F => M.bind (args F.muts) fun os => fun env =>
    if (places os).Nodup then
      match hand os env with
      | some ds => match F.run ds with
        | some (.ret d outs) => (back os outs env).map fun env' => .ok d env'
        | some (.exn c d outs) => (back os outs env).map fun env' => .exn c d env'
        | none => none
      | none => none
    else none
def heardF (Γ : Sig) (f : Nat) (m : M D) : M D :=
  match Γ.told f with
  | none => M.fail
  | some F => fun env => match m env with
    | some (.ok d env') => some (.ok (F.1 d.fz) env')
    | some (.exn c d env') => some (.ok (F.2 c d) env')
    | none => none
/-- a name, for good: what it owned is owned no more -/
def varF (Γ : Sig) (i : Nat) : M D := fun env => match env[i]? with
  | some (some d) => if d.isOwn then (if Γ.pin i then none else some (.ok d.fz (env.set i (some d.fz)))) else some (.ok d env)
  | _ => none
/-- a name, read -/
def varR (i : Nat) : M Opd := fun env => match env[i]? with
  | some (some _) => some (.ok (.pl i) env)
  | _ => none
def frozen (m : M D) : M Opd := M.bind m fun d => M.ret (.val d.fz)
def two (f : D → D → M D) (a b : M Opd) : M D := M.bind a fun x => M.bind b fun y => M.bind x.get fun x => M.bind y.get fun y => f x y
def andF (a b : M D) : M D := M.bind a fun x => match x with
  | .bl true => b
  | .bl false => M.ret (.bl false)
  | _ => M.fail
def orF (a b : M D) : M D := M.bind a fun x => match x with
  | .bl true => M.ret (.bl true)
  | .bl false => b
  | _ => M.fail
def negF (a : M D) : M D := M.bind a fun x => match x with
  | .int i => M.ret (.int (-i))
  | _ => M.fail
def range1F (a : M D) : M (List D) := M.bind a fun x => match x with
  | .int n => if -(2 ^ 62) ≤ n ∧ n < 2 ^ 62 then M.ret ((List.range n.toNat).map fun (k : Nat) => .int k) else M.fail
  | _ => M.fail
def range2F (a b : M D) : M (List D) := M.bind a fun x => M.bind b fun y => match x, y with
  | .int l, .int h => if -(2 ^ 62) ≤ l ∧ l < 2 ^ 62 ∧ -(2 ^ 62) ≤ h ∧ h < 2 ^ 62 then M.ret ((List.range (h - l).toNat).map fun (k : Nat) => .int (l + k)) else M.fail
  | _, _ => M.fail
def testV (a : M Opd) : M Bool := M.bind a fun x => M.bind x.get fun x => M.opt (truth x)

/-- an expression to be read -/
def rdF (e : E) (m : M D) : M Opd := match e with
  | .var i => varR i
  | _ => frozen m
/-- a part of a slice -/
def partF (e : E) (m : M D) : M (Option Int) := match e with
  | .abs => M.ret none
  | _ => M.bind m fun d => M.opt (part d)
def andT (a b : M Bool) : M Bool := M.bind a fun k => if k then b else M.ret false
def orT (a b : M Bool) : M Bool := M.bind a fun k => if k then M.ret true else b
def notT (a : M Bool) : M Bool := M.bind a fun k => M.ret (!k)
def notV (a : M Bool) : M D := M.bind a fun k => M.ret (.bl (!k))
def iteF (c : M Bool) (a b : M D) : M D := M.bind c fun k => if k then a else b
def tupF (es : M (List D)) : M D := M.bind es fun ds => if ds.length ≤ lim then M.ret (.tup ds) else M.fail
def lstF (es : M (List D)) : M D := M.bind es fun ds => if ds.length ≤ lim then M.ret (.own (.lst ds)) else M.fail
def slcF (a : M Opd) (lo hi : M (Option Int)) : M D := M.bind a fun x => M.bind lo fun l => M.bind hi fun h => M.bind x.get fun x => M.opt (slcD x l h)
def revF (a : M Opd) : M D := M.bind a fun x => M.bind x.get fun x => M.opt (revD x)
def biF (f : Bi) (es : M (List Opd)) : M D := M.bind es fun os => M.bind (gets os) fun ds => M.opt (biD f ds)
/-- a method of a text -/
def methF (m : Mt) (o : M Opd) (es : M (List Opd)) : M D := M.bind o fun x => M.bind x.get fun x => match x with
  | .str s => M.bind es fun os => M.bind (gets os) fun ds => M.opt (methD m (.str s) ds)
  | _ => M.fail
def ezipL : Nat → List Nat → List Nat → List D
  | k, c :: s, d :: t => .tup [.int k, .tup [.str [c], .str [d]]] :: ezipL (k + 1) s t
  | _, _, _ => []
/-- enumerate(zip(a, b)), texts -/
def ezipF (a b : M D) : M (List D) := M.bind a fun x => M.bind b fun y => match x, y with
  | .str s, .str t => if s.length ≤ lim ∧ t.length ≤ lim then M.ret (ezipL 0 s t) else M.fail
  | _, _ => M.fail
def turnF (pin : Nat → Bool) (t : T) (cs : M Bool) (elt : M D) (d : D) : M (Option D) :=
  M.bind (asT pin t d) fun _ => M.bind cs fun k => if k then M.bind elt fun x => M.ret (some x.fz) else M.ret none
def compF (Γ : Sig) (t : T) (it : M (List D)) (cs : M Bool) (elt : M D) (vs : List Nat) : M D := M.bind it fun ds => fun env =>
  if vs.all (pureAt env) && !vs.any Γ.pin && t.slots.all (vs.contains ·) then compGo (turnF Γ.pin t cs elt) vs env ds [] env else none
/-- a value alone, and as a test -/
def asV (m : M D) : M D × M Bool := (m, testV (frozen m))

mutual
/-- an expression: its value as it comes (a container that is new is owned); as a test -/
def ev (Γ : Sig) : E → M D × M Bool
  | .cst d => asV (M.ret d)
  | .var i => (varF Γ i, testV (varR i))
  | .bin o a b => asV (two (fun x y => M.opt (binD o x y)) (rdF a (ev Γ a).1) (rdF b (ev Γ b).1))
  | .neg a => asV (negF (ev Γ a).1)
  | .cmp c a b => asV (two (fun x y => M.opt ((cmpD c x y).map .bl)) (rdF a (ev Γ a).1) (rdF b (ev Γ b).1))
  | .and_ a b => (andF (ev Γ a).1 (ev Γ b).1, andT (ev Γ a).2 (ev Γ b).2)
  | .or_ a b => (orF (ev Γ a).1 (ev Γ b).1, orT (ev Γ a).2 (ev Γ b).2)
  | .not_ a => (notV (testV (rdF a (ev Γ a).1)), notT (ev Γ a).2)
  | .ite c a b => (iteF (ev Γ c).2 (ev Γ a).1 (ev Γ b).1, M.fail)
  | .tup es => asV (tupF (evs Γ es))
  | .lst es => asV (lstF (evs Γ es))
  | .idx a b => asV (two (fun x y => M.opt (idxD x y)) (rdF a (ev Γ a).1) (rdF b (ev Γ b).1))
  | .slc a lo hi => asV (slcF (rdF a (ev Γ a).1) (partF lo (ev Γ lo).1) (partF hi (ev Γ hi).1))
  | .rev a => asV (revF (rdF a (ev Γ a).1))
  | .abs => asV M.fail
  | .call f es => asV (callF Γ f (evA Γ es))
  | .bi f es => asV (biF f (evR Γ es))
  | .meth m o es => asV (methF m (rdF o (ev Γ o).1) (evR Γ es))
  | .comp t it cs elt vs => asV (compF Γ t (evI Γ it) (evC Γ cs) (ev Γ elt).1 vs)
  | .heard f e => asV (heardF Γ f (ev Γ e).1)
def evs (Γ : Sig) : Es → M (List D)
  | .nil => M.ret []
  | .cons e es => M.bind (ev Γ e).1 fun d => M.bind (evs Γ es) fun ds => M.ret (d.fz :: ds)
def evR (Γ : Sig) : Es → M (List Opd)
  | .nil => M.ret []
  | .cons e es => M.bind (rdF e (ev Γ e).1) fun d => M.bind (evR Γ es) fun ds => M.ret (d :: ds)
def evA (Γ : Sig) : Es → List Bool → M (List Opd)
  | .nil, [] => M.ret []
  | .cons e es, false :: ms => M.bind (ev Γ e).1 fun d => M.bind (evA Γ es ms) fun os => M.ret (.val d.fz :: os)
  | .cons (.var i) es, true :: ms => M.bind (varR i) fun o => M.bind (evA Γ es ms) fun os => M.ret (o :: os)
  | _, _ => M.fail
def evC (Γ : Sig) : Es → M Bool
  | .nil => M.ret true
  | .cons e .nil => (ev Γ e).2
  | .cons _ (.cons _ _) => M.fail
def evI (Γ : Sig) : It → M (List D)
  | .e a => M.bind (ev Γ a).1 fun d => M.opt (itemsD d.fz)
  | .range1 a => range1F (ev Γ a).1
  | .range2 a b => range2F (ev Γ a).1 (ev Γ b).1
  | .ezip a b => ezipF (ev Γ a).1 (ev Γ b).1
end

/-- how a statement ends -/
inductive Out where
  | nx (env : Env)
  | brk (env : Env)
  | ct (env : Env)
  | ret (d : D) (env : Env)
  | exn (c : Nat) (d : D) (env : Env)
def run {α : Type} (m : M α) (k : α → Env → Option Out) (env : Env) : Option Out := match m env with
  | none => none
  | some (.exn c d env') => some (.exn c d env')
  | some (.ok a env') => k a env'
def nxt : Unit → Env → Option Out := fun _ env => some (.nx env)
def stV (Γ : Sig) (i : Nat) (d : D) : M Unit := if Γ.pin i then M.fail else setV i d
/-- a name that is given back is given with what it owns -/
def retF (Γ : Sig) (e : E) (m : M D) : M D := match e with
  | .var i => fun env => match env[i]? with
    | some (some d) => if d.isOwn then (if Γ.pin i then none else some (.ok d (env.set i none))) else some (.ok d env)
    | _ => none
  | _ => m
def setAt (i : Nat) (y x : D) : M Unit := fun env => match env[i]?, y with
  | some (some (.own (.lst ds))), .int n => match L2.ixN ds.length n with
    | some p => some (.ok () (env.set i (some (.own (.lst (ds.set p x))))))
    | none => none
  | _, _ => none
/-- the name holds a list of its own -/
def ownL {α : Type} (i : Nat) (m : List D → M α) : M α := fun env => match env[i]? with
  | some (some (.own (.lst ds))) => m ds env
  | _ => none
def setIxF (i : Nat) (k e : M D) : M Unit := M.bind e fun x => ownL i fun _ => M.bind k fun y => setAt i y x.fz
def opI : Op2 → Option (Int → Int → Int)
  | .add => some fun i j => i + j
  | .sub => some fun i j => i - j
  | _ => none
def augD (o : Op2) (x y : D) : Option D := match x, y, opI o with
  | .int a, .int b, some f => some (.int (f a b))
  | _, _, _ => none
def getAt (ds : List D) (y : D) : Option (D × Nat) := match y with
  | .int n => (L2.ixN ds.length n).bind fun p => (ds[p]?).map fun d => (d, p)
  | _ => none
def augIxF (i : Nat) (k : M D) (o : Op2) (e : M D) : M Unit :=
  ownL i fun _ => M.bind k fun y => ownL i fun ds => M.bind (M.opt (getAt ds y)) fun old => M.bind e fun x => M.bind (M.opt (augD o old.1 x)) fun z => setAt i y z
def mutAt (m : Mu) (i : Nat) (ds : List D) : M D := fun env => match env[i]? with
  | some (some (.own c)) => (mutD m c ds).map fun r => .ok r.1 (env.set i (some (.own r.2)))
  | _ => none
def mutF (m : Mu) (i : Nat) (es : M (List D)) : M D := ownL i fun _ => M.bind es fun ds => mutAt m i ds
def parF (Γ : Sig) (i j : Nat) (a b : M D) : M Unit := M.bind a fun x => M.bind b fun y => M.bind (stV Γ i x) fun _ => stV Γ j y
def augV (Γ : Sig) (i : Nat) (o : Op2) (e : M D) : M Unit := M.bind (varR i) fun x => M.bind x.get fun x => M.bind e fun y => M.bind (M.opt (augD o x y)) fun z => stV Γ i z
def forGo (turn : D → M Unit) (body : Env → Option Out) : List D → Env → Option Out
  | [], env => some (.nx env)
  | d :: ds, env => match turn d env with
    | some (.ok _ env1) => match body env1 with
      | some (.nx env2) => forGo turn body ds env2
      | some (.ct env2) => forGo turn body ds env2
      | some (.brk env2) => some (.nx env2)
      | some (.ret x env2) => some (.ret x env2)
      | some (.exn c x env2) => some (.exn c x env2)
      | none => none
    | _ => none
def whileGo (test : M Bool) (body : Env → Option Out) : Nat → Env → Option Out
  | 0, _ => none
  | n + 1, env => match test env with
    | some (.ok true env1) => match body env1 with
      | some (.nx env2) => whileGo test body n env2
      | some (.ct env2) => whileGo test body n env2
      | some (.brk env2) => some (.nx env2)
      | some (.ret x env2) => some (.ret x env2)
      | some (.exn c x env2) => some (.exn c x env2)
      | none => none
    | some (.ok false env1) => some (.nx env1)
    | some (.exn c x env1) => some (.exn c x env1)
    | none => none
mutual
def ex (Γ : Sig) : S → Env → Option Out
  | .asg i e => run (M.bind (ev Γ e).1 fun d => stV Γ i d) nxt
  | .asgT ts e => run (M.bind (ev Γ e).1 fun d => asT Γ.pin (.tp ts) d.fz) nxt
  | .par i j a b => run (parF Γ i j (ev Γ a).1 (ev Γ b).1) nxt
  | .aug i o e => run (augV Γ i o (ev Γ e).1) nxt
  | .setIx i k e => run (setIxF i (ev Γ k).1 (ev Γ e).1) nxt
  | .augIx i k o e => run (augIxF i (ev Γ k).1 o (ev Γ e).1) nxt
  | .expr e => run (ev Γ e).1 fun _ env => some (.nx env)
  | .mut m i es => run (mutF m i (evs Γ es)) fun _ env => some (.nx env)
  | .ret e => run (retF Γ e (ev Γ e).1) fun d env => some (.ret d env)
  | .if_ c a b => run (ev Γ c).2 fun k env => if k then exs Γ a env else exs Γ b env
  | .while_ c b => whileGo (ev Γ c).2 (exs Γ b) Γ.fuel
  | .for_ t it b => run (evI Γ it) fun ds env => forGo (asT Γ.pin t) (exs Γ b) ds env
  | .raise_ c e => run (ev Γ e).1 fun d env => if Γ.exc c then some (.exn c d.fz env) else none
  | .pass => fun env => some (.nx env)
  | .brk => fun env => some (.brk env)
  | .cont => fun env => some (.ct env)
def exs (Γ : Sig) : Ss → Env → Option Out
  | .nil, env => some (.nx env)
  | .cons s ss, env => match ex Γ s env with
    | some (.nx env') => exs Γ ss env'
    | r => r
end
/-- what the arguments are at the end: changed ones as the names then tell, the others as they were -/
def outsOf (env : Env) : List Bool → List D → Nat → Option (List D)
  | [], [], _ => some []
  | true :: ms, _ :: ds, k => match env[k]? with
    | some (some d) => (outsOf env ms ds (k + 1)).map (d :: ·)
    | _ => none
  | false :: ms, d :: ds, k => (outsOf env ms ds (k + 1)).map (d :: ·)
  | _, _, _ => none
/-- a def's body run on its arguments: n names in all -/
def body (Γ : Sig) (muts : List Bool) (n : Nat) (ss : Ss) (args : List D) : Option Ans :=
  match exs Γ ss (args.map some ++ List.replicate (n - args.length) none) with
  | some (.nx env) => (outsOf env muts args 0).map fun os => .ret .non os
  | some (.ret d env) => (outsOf env muts args 0).map fun os => .ret d os
  | some (.exn c d env) => (outsOf env muts args 0).map fun os => .exn c d os
  | _ => none
end Dz

set_option Elab.async false
set_option linter.all false
set_option maxRecDepth 100000
set_option maxHeartbeats 2000000
/-! Dz, part 2: plain data in the abstract heap; what a step keeps; the state of a def's names. -/
namespace Dz
open PySem PySem.Spec PyProof.Rows L2

/-- no table of code objects -/
def nt (o : HO) : Prop := ∀ ps, o ≠ .tbl ps
abbrev As := Addr → Prop
def cup (A B : As) : As := fun b => A b ∨ B b
def inL (S : List Addr) : As := fun b => b ∈ S
/-- the list at a, none that is owned; or one of the module's own -/
def AtL (K : PySem.W.Frag) (Av : As) (H : Hp) (a : Addr) (xs : List V) : Prop := (Rd H a (.lst xs) ∧ ¬ Av a) ∨ ∀ H', SqL K H' a xs
def AtT (K : PySem.W.Frag) (Av : As) (H : Hp) (a : Addr) (xs : List V) : Prop := (Rd H a (.tup xs) ∧ ¬ Av a) ∨ ∀ H', SqT K H' a xs
theorem AtL.sq {K : PySem.W.Frag} {Av : As} {H : Hp} {a : Addr} {xs : List V} (h : AtL K Av H a xs) : SqL K H a xs := by
  rcases h with ⟨h, _⟩ | h
  · exact .inl h
  · exact h H
theorem AtT.sq {K : PySem.W.Frag} {Av : As} {H : Hp} {a : Addr} {xs : List V} (h : AtT K Av H a xs) : SqT K H a xs := by
  rcases h with ⟨h, _⟩ | h
  · exact .inl h
  · exact h H
/-- what is not owned stays so -/
def Stays (Av : As) (H : Hp) (Av' : As) (H' : Hp) : Prop := ∀ a o, H a = some o → ¬ Av a → nt o → H' a = some o ∧ ¬ Av' a
theorem Stays.trans {A B C : As} {H H1 H2 : Hp} (x : Stays A H B H1) (y : Stays B H1 C H2) : Stays A H C H2 := fun a o h n q =>
  let ⟨h1, n1⟩ := x a o h n q; y a o h1 n1 q
theorem Stays.rd {A B : As} {H H' : Hp} {a : Addr} {o : HO} (x : Stays A H B H') (h : Rd H a o) (n : ¬ A a) (q : nt o) : Rd H' a o ∧ ¬ B a := by
  rcases h with h | ⟨ob, h⟩
  · exact ⟨.inl (x a _ h n q).1, (x a _ h n q).2⟩
  · have w := x a _ h n (fun ps z => by cases z)
    exact ⟨.inr ⟨ob, w.1⟩, w.2⟩
theorem Stays.l {K : PySem.W.Frag} {A B : As} {H H' : Hp} {a : Addr} {xs : List V} (x : Stays A H B H') (h : AtL K A H a xs) : AtL K B H' a xs := by
  rcases h with ⟨h, n⟩ | h
  · exact .inl (x.rd h n fun ps z => by cases z)
  · exact .inr h
theorem Stays.t {K : PySem.W.Frag} {A B : As} {H H' : Hp} {a : Addr} {xs : List V} (x : Stays A H B H') (h : AtT K A H a xs) : AtT K B H' a xs := by
  rcases h with ⟨h, n⟩ | h
  · exact .inl (x.rd h n fun ps z => by cases z)
  · exact .inr h

mutual
/-- the value v is the plain datum d, all of it in what is not owned -/
inductive Pu (K : PySem.W.Frag) (Av : As) (H : Hp) : V → D → Prop
  | non : Pu K Av H .non .non
  | bl (b : Bool) : Pu K Av H (.bl b) (.bl b)
  | int (i : Int) : Pu K Av H (.int i) (.int i)
  | str (l : List Nat) : Pu K Av H (.str ⟨l.toArray⟩) (.str l)
  | tup {a : Addr} {vs : List V} {ds : List D} : AtT K Av H a vs → Pus K Av H vs ds → Pu K Av H (.ref a) (.tup ds)
  | lst {a : Addr} {vs : List V} {ds : List D} : AtL K Av H a vs → Pus K Av H vs ds → Pu K Av H (.ref a) (.lst ds)
inductive Pus (K : PySem.W.Frag) (Av : As) (H : Hp) : List V → List D → Prop
  | nil : Pus K Av H [] []
  | cons {v : V} {vs : List V} {d : D} {ds : List D} : Pu K Av H v d → Pus K Av H vs ds → Pus K Av H (v :: vs) (d :: ds)
end
section
variable {K : PySem.W.Frag} {Av Av' : As} {H H' : Hp}
mutual
theorem Pu.stay (x : Stays Av H Av' H') : ∀ {v : V} {d : D}, Pu K Av H v d → Pu K Av' H' v d
  | _, _, .non => .non
  | _, _, .bl b => .bl b
  | _, _, .int i => .int i
  | _, _, .str l => .str l
  | _, _, .tup h hs => .tup (x.t h) (Pus.stay x hs)
  | _, _, .lst h hs => .lst (x.l h) (Pus.stay x hs)
theorem Pus.stay (x : Stays Av H Av' H') : ∀ {vs : List V} {ds : List D}, Pus K Av H vs ds → Pus K Av' H' vs ds
  | _, _, .nil => .nil
  | _, _, .cons h hs => .cons (Pu.stay x h) (Pus.stay x hs)
end
theorem Pus.length : ∀ {vs : List V} {ds : List D}, Pus K Av H vs ds → vs.length = ds.length
  | _, _, .nil => rfl
  | _, _, .cons _ hs => by simp [Pus.length hs]
theorem Pus.get : ∀ {vs : List V} {ds : List D} {i : Nat} {d : D}, Pus K Av H vs ds → ds[i]? = some d → ∃ v, vs[i]? = some v ∧ Pu K Av H v d
  | _, _, _, _, .nil, e => by simp at e
  | _, _, 0, _, .cons h _, e => by simp at e; subst e; exact ⟨_, rfl, h⟩
  | _, _, i + 1, d, .cons _ hs, e => by
    obtain ⟨v, h1, h2⟩ := Pus.get (i := i) (d := d) hs (by simpa using e)
    exact ⟨v, by simpa using h1, h2⟩
theorem Pus.append : ∀ {vs ws : List V} {ds es : List D}, Pus K Av H vs ds → Pus K Av H ws es → Pus K Av H (vs ++ ws) (ds ++ es)
  | _, _, _, _, .nil, h => h
  | _, _, _, _, .cons h hs, g => .cons h (Pus.append hs g)
theorem Pus.take : ∀ {vs : List V} {ds : List D} (n : Nat), Pus K Av H vs ds → Pus K Av H (vs.take n) (ds.take n)
  | _, _, 0, _ => .nil
  | _, _, _ + 1, .nil => .nil
  | _, _, n + 1, .cons h hs => .cons h (Pus.take n hs)
theorem Pus.drop : ∀ {vs : List V} {ds : List D} (n : Nat), Pus K Av H vs ds → Pus K Av H (vs.drop n) (ds.drop n)
  | _, _, 0, h => h
  | _, _, _ + 1, .nil => .nil
  | _, _, n + 1, .cons _ hs => Pus.drop n hs
theorem Pus.set : ∀ {vs : List V} {ds : List D} (n : Nat) {v : V} {d : D}, Pus K Av H vs ds → Pu K Av H v d → Pus K Av H (vs.set n v) (ds.set n d)
  | _, _, _, _, _, .nil, _ => .nil
  | _, _, 0, _, _, .cons _ hs, g => .cons g hs
  | _, _, n + 1, _, _, .cons h hs, g => .cons h (Pus.set n hs g)
theorem Pus.reverse : ∀ {vs : List V} {ds : List D}, Pus K Av H vs ds → Pus K Av H vs.reverse ds.reverse
  | _, _, .nil => .nil
  | _, _, .cons h hs => by
    rw [List.reverse_cons, List.reverse_cons]
    exact Pus.append (Pus.reverse hs) (.cons h .nil)
theorem Pu.nown {v : V} {d : D} (h : Pu K Av H v d) : d.isOwn = false := by cases h <;> rfl
theorem D.fz_of {d : D} (h : d.isOwn = false) : d.fz = d := by cases d <;> first | rfl | cases h
theorem Pu.fz {v : V} {d : D} (h : Pu K Av H v d) : d.fz = d := D.fz_of h.nown
end

/-- the value v is the datum d; what it owns stands at S -/
inductive Ow (K : PySem.W.Frag) (Av : As) (H : Hp) : V → D → List Addr → Prop
  | pu {v : V} {d : D} : Pu K Av H v d → Ow K Av H v d []
  | lst {p : Addr} {vs : List V} {ds : List D} : H p = some (.lst vs) → Pus K Av H vs ds → Ow K Av H (.ref p) (.own (.lst ds)) [p]
/-- the value v is to be read as d, now -/
def Op (K : PySem.W.Frag) (Av : As) (H : Hp) (v : V) (d : D) : Prop := Pu K Av H v d ∨ ∃ p vs ds, v = .ref p ∧ d = .lst ds ∧ H p = some (.lst vs) ∧ Pus K Av H vs ds
section
variable {K : PySem.W.Frag} {Av Av' : As} {H H' : Hp} {v : V} {d : D} {S : List Addr}
theorem Ow.op (h : Ow K Av H v d S) : Op K Av H v d.fz := by
  cases h with
  | pu h => exact .inl (by rw [h.fz]; exact h)
  | lst h hs => exact .inr ⟨_, _, _, rfl, rfl, h, hs⟩
theorem Op.list {ds : List D} (h : Op K Av H v (.lst ds)) : ∃ a vs, v = .ref a ∧ SqL K H a vs ∧ Pus K Av H vs ds := by
  rcases h with h | ⟨p, vs, es, rfl, e, h, hs⟩
  · cases h with
    | lst h hs => exact ⟨_, _, rfl, h.sq, hs⟩
  · cases e
    exact ⟨p, vs, rfl, .of h, hs⟩
theorem Op.tuple {ds : List D} (h : Op K Av H v (.tup ds)) : ∃ a vs, v = .ref a ∧ SqT K H a vs ∧ Pus K Av H vs ds ∧ Pu K Av H v (.tup ds) := by
  rcases h with h | ⟨p, vs, es, rfl, e, h, hs⟩
  · cases h with
    | tup h hs => exact ⟨_, _, rfl, h.sq, hs, .tup h hs⟩
  · cases e
theorem Op.int {i : Int} (h : Op K Av H v (.int i)) : v = .int i := by
  rcases h with h | ⟨p, vs, es, rfl, e, h, hs⟩
  · cases h; rfl
  · cases e
theorem Op.bl {b : Bool} (h : Op K Av H v (.bl b)) : v = .bl b := by
  rcases h with h | ⟨p, vs, es, rfl, e, h, hs⟩
  · cases h; rfl
  · cases e
theorem Op.str {l : List Nat} (h : Op K Av H v (.str l)) : v = .str ⟨l.toArray⟩ := by
  rcases h with h | ⟨p, vs, es, rfl, e, h, hs⟩
  · cases h; rfl
  · cases e
theorem Op.non (h : Op K Av H v .non) : v = .non := by
  rcases h with h | ⟨p, vs, es, rfl, e, h, hs⟩
  · cases h; rfl
  · cases e
mutual
theorem Pu.dp : ∀ {v : V} {d : D}, Pu K Av H v d → Dp K H v d.py
  | _, _, .non => by rw [D.py]; exact .non
  | _, _, .bl b => by rw [D.py]; exact .bl b
  | _, _, .int i => by rw [D.py]; exact .int i
  | _, _, .str l => by rw [D.py]; exact .str _
  | _, _, .tup h hs => by rw [D.py]; exact .tup h.sq (Pus.dp hs)
  | _, _, .lst h hs => by rw [D.py]; exact .lst h.sq (Pus.dp hs)
theorem Pus.dp : ∀ {vs : List V} {ds : List D}, Pus K Av H vs ds → DpAll K H vs (D.pys ds)
  | _, _, .nil => by rw [D.pys]; exact .nil
  | _, _, .cons h hs => by rw [D.pys]; exact .cons (Pu.dp h) (Pus.dp hs)
end
theorem Op.dp (h : Op K Av H v d) : Dp K H v d.py := by
  rcases h with h | ⟨p, vs, es, rfl, rfl, h, hs⟩
  · exact h.dp
  · rw [D.py]; exact .lst (.of h) hs.dp
theorem Ow.stay (h : Ow K Av H v d S) (x : Stays Av H Av' H') (hS : ∀ b ∈ S, ∀ o, H b = some o → H' b = some o) : Ow K Av' H' v d S := by
  cases h with
  | pu h => exact .pu (h.stay x)
  | lst h hs => exact .lst (hS _ (by simp) _ h) (hs.stay x)
end

/-! ### what a step keeps -/
/-- all that is not owned stays; what is owned then was so ahead, or is new -/
structure Tr (O : As) (H : Hp) (O' : As) (H' : Hp) : Prop where
  keep : ∀ b o, H b = some o → ¬ O b → nt o → H' b = some o
  dom : ∀ b, H b ≠ none → H' b ≠ none
  grow : ∀ b, O' b → O b ∨ H b = none
section
variable {O O1 O2 : As} {H H1 H2 : Hp}
theorem Tr.refl : Tr O H O H := ⟨fun _ _ h _ _ => h, fun _ h => h, fun _ h => .inl h⟩
theorem Tr.trans (x : Tr O H O1 H1) (y : Tr O1 H1 O2 H2) : Tr O H O2 H2 where
  keep := fun b o h n q => y.keep b o (x.keep b o h n q) (fun z => (x.grow b z).elim n fun e => by rw [h] at e; cases e) q
  dom := fun b h => y.dom b (x.dom b h)
  grow := fun b h => by
    rcases y.grow b h with z | z
    · exact x.grow b z
    · refine .inr ?_
      cases e : H b with
      | none => rfl
      | some o => exact absurd z (x.dom b (by rw [e]; simp))
theorem Tr.less (x : Tr O H O1 H1) (h : ∀ b, O2 b → O1 b) : Tr O H O2 H1 := ⟨x.keep, x.dom, fun b z => x.grow b (h b z)⟩
theorem Tr.stays {A : As} (x : Tr O H O1 H1) : Stays (cup A O) H (cup A O1) H1 := fun a o h n q =>
  ⟨x.keep a o h (fun z => n (.inr z)) q, fun z => n (z.imp id fun z => (x.grow a z).resolve_right fun e => by rw [h] at e; cases e)⟩
/-- a new object -/
theorem Tr.new {p : Addr} {o : HO} (h : H p = none) : Tr O H O (upd H p o) :=
  ⟨fun b u e _ _ => by rw [upd_ne (ne_of_none e h)]; exact e, fun b e => by
    by_cases z : b = p
    · rw [z, upd_same]; simp
    · rw [upd_ne z]; exact e, fun _ z => .inl z⟩
/-- a new object that is owned -/
theorem Tr.newOwn {p : Addr} {o : HO} (h : H p = none) : Tr O H (cup (inL [p]) O) (upd H p o) :=
  ⟨(Tr.new h).keep, (Tr.new (O := O) h).dom, fun b z => z.elim (fun z => .inr (by rw [List.mem_singleton.mp z]; exact h)) .inl⟩
/-- an owned object is written -/
theorem Tr.write {p : Addr} {o : HO} (h : O p) : Tr O H O (upd H p o) :=
  ⟨fun b u e n _ => by rw [upd_ne (fun z => n (by rw [z]; exact h))]; exact e, fun b e => by
    by_cases z : b = p
    · rw [z, upd_same]; simp
    · rw [upd_ne z]; exact e, fun _ z => .inl z⟩
end
theorem stays_of {A B : As} {H H' : Hp} (h : ∀ b o, H b = some o → nt o → H' b = some o) (hb : ∀ b, B b → A b ∨ H b = none) : Stays A H B H' := fun a o e n q =>
  ⟨h a o e q, fun z => (hb a z).elim n fun w => by rw [e] at w; cases w⟩
theorem stays_less {A B : As} {H : Hp} (hb : ∀ b, B b → A b) : Stays A H B H := stays_of (fun _ _ e _ => e) fun b z => .inl (hb b z)

/-! ### the names of a def and what they own -/
abbrev Fo := Nat → List Addr
/-- what the names own -/
def ow (F : Fo) : As := fun b => ∃ i, b ∈ F i
abbrev Tb := List (Addr × Str)
/-- A0: what others own; P: the names whose object is a changed argument -/
structure Wf (K : PySem.W.Frag) (Tt : Tb) (A0 : As) (P : Nat → Option Addr) (F : Fo) (H : Hp) (σ : L2.St) (env : Env) : Prop where
  len : env.length = σ.length
  slot : ∀ i d, env[i]? = some (some d) → ∃ v, σ[i]? = some (some v) ∧ Ow K (cup A0 (ow F)) H v d (F i)
  emp : ∀ i, (∀ d, env[i]? = some (some d) → d.isOwn = false) → F i = []
  disj : ∀ i j b, b ∈ F i → b ∈ F j → i = j
  out : ∀ b, ow F b → ¬ A0 b
  dom : ∀ b, A0 b → H b ≠ none
  tabs : LamX.Tabs Tt H
  pins : ∀ i p, P i = some p → σ[i]? = some (some (.ref p))
section
variable {K : PySem.W.Frag} {Tt : Tb} {A0 A1 : As} {P : Nat → Option Addr} {F F' : Fo} {H H' : Hp} {σ : L2.St} {env env' : Env} {S : List Addr}
theorem Wf.odom (w : Wf K Tt A0 P F H σ env) : ∀ b, ow F b → ∃ vs, H b = some (.lst vs) := fun b ⟨i, hi⟩ => by
  by_cases h : ∀ d, env[i]? = some (some d) → d.isOwn = false
  · rw [w.emp i h] at hi; cases hi
  · obtain ⟨d, h⟩ := Classical.not_forall.mp h
    obtain ⟨h1, h2⟩ := Classical.not_imp.mp h
    obtain ⟨v, _, o⟩ := w.slot i d h1
    generalize F i = l at hi o
    cases o with
    | pu g => exact absurd g.nown h2
    | lst g hs => rw [List.mem_singleton.mp hi]; exact ⟨_, g⟩
/-- others own less -/
theorem Wf.less (w : Wf K Tt A0 P F H σ env) (h : ∀ b, A1 b → A0 b) : Wf K Tt A1 P F H σ env where
  len := w.len
  slot := fun i d e => let ⟨v, h1, h2⟩ := w.slot i d e; ⟨v, h1, h2.stay (stays_less fun b z => z.imp (h b) id) fun _ _ _ e => e⟩
  emp := w.emp
  disj := w.disj
  out := fun b z y => w.out b z (h b y)
  dom := fun b z => w.dom b (h b z)
  tabs := w.tabs
  pins := w.pins
/-- the heap has turned, the names own what they did -/
theorem Wf.turn (w : Wf K Tt A0 P F H σ env) (k : ∀ b o, H b = some o → nt o → H' b = some o) (hd : ∀ b, H b ≠ none → H' b ≠ none) (t : LamX.Tabs Tt H') : Wf K Tt A0 P F H' σ env where
  len := w.len
  slot := fun i d e => let ⟨v, h1, h2⟩ := w.slot i d e
    ⟨v, h1, h2.stay (stays_of k fun _ z => .inl z) fun b hb o e => k b o e (by obtain ⟨vs, q⟩ := w.odom b ⟨i, hb⟩; rw [e] at q; cases q; intro ps z; cases z)⟩
  emp := w.emp
  disj := w.disj
  out := w.out
  dom := fun b z => hd b (w.dom b z)
  tabs := t
  pins := w.pins
theorem tabs_new {p : Addr} {o : HO} (t : LamX.Tabs Tt H) (h : H p = none) : LamX.Tabs Tt (upd H p o) := t.ext fun b u e => by rw [upd_ne (ne_of_none e h)]; exact e
/-- a new object, that no name owns -/
theorem Wf.new {p : Addr} {o : HO} (w : Wf K Tt A0 P F H σ env) (h : H p = none) : Wf K Tt A0 P F (upd H p o) σ env :=
  w.turn (fun b u e _ => (Tr.new (O := fun _ => False) h).keep b u e id ‹_›) (Tr.new (O := fun _ => False) h).dom (tabs_new w.tabs h)
/-- .. that is owned from without -/
theorem Wf.newOwn {p : Addr} {o : HO} (w : Wf K Tt A0 P F H σ env) (h : H p = none) : Wf K Tt (cup A0 (inL [p])) P F (upd H p o) σ env := by
  have w1 := w.new (o := o) h
  refine ⟨w.len, fun i d e => ?_, w.emp, w.disj, fun b z y => ?_, fun b z => ?_, w1.tabs, w.pins⟩
  · obtain ⟨v, h1, h2⟩ := w.slot i d e
    have k := Tr.new (O := fun _ => False) (o := o) h
    exact ⟨v, h1, h2.stay (fun a u q n nn => ⟨k.keep a u q id nn, fun z => by
      rcases z with (z | z) | z
      · exact n (.inl z)
      · rw [List.mem_singleton.mp z, h] at q; cases q
      · exact n (.inr z)⟩) fun b hb u q => k.keep b u q id (by obtain ⟨vs, q'⟩ := w.odom b ⟨i, hb⟩; rw [q] at q'; cases q'; intro ps z; cases z)⟩
  · rcases y with y | y
    · exact w.out b z y
    · obtain ⟨vs, q⟩ := w.odom b z
      rw [List.mem_singleton.mp y, h] at q; cases q
  · rcases z with z | z
    · exact w1.dom b z
    · rw [List.mem_singleton.mp z, upd_same]; simp
end
end Dz

set_option Elab.async false
set_option linter.all false
set_option maxRecDepth 100000
set_option maxHeartbeats 2000000
/-! Dz, part 4: readings by the small language's meanings; two in a row; operands. -/
namespace Dz
open PySem PySem.Spec PyProof.Rows L2

/-- what is fixed in a def's body: the written part, the tables, the names of changed arguments, what is wanted of an exception, the exceptions' classes with the field of each -/
structure Cf where
  K : PySem.W.Frag
  T : Tb
  P : Nat → Option Addr
  W : WX
  ec : Nat → Option (Addr × Str)
variable {α β γ δ : Type}
/-- the exception of the class c that bears d -/
def Exn (C : Cf) (Av : As) (H : Hp) (c : Nat) (d : D) (cls : Value) (dd : Option Addr) : Prop :=
  ∃ a f dx v, C.ec c = some (a, f) ∧ cls = .ref a ∧ dd = some dx ∧ H dx = some (.xd [(f, v)]) ∧ Pu C.K Av H v d
/-- a kind of value: what is known of it behind its making, for what is wanted of it -/
structure Kd (C : Cf) (α β : Type) where
  post : As → Fo → Hp → L2.St → (β → Hp → Prop) → α → Env → Prop
  trans : ∀ {A0 : As} {F F1 : Fo} {H H1 : Hp} {σ : L2.St} {Q : β → Hp → Prop} {a : α} {env : Env}, Tr (ow F) H (ow F1) H1 → post A0 F H σ Q a env → post A0 F1 H1 σ Q a env
abbrev Rel (α β : Type) := α → L2.St → As → Hp → β → Prop
def Kd.of (C : Cf) (J : Rel α β) : Kd C α β where
  post := fun A0 F H σ Q a env => ∀ b H' F', Tr (ow F) H (ow F') H' → Wf C.K C.T A0 C.P F' H' σ env → J a σ (cup A0 (ow F')) H' b → Q b H'
  trans := fun t h b H' F' t' => h b H' F' (t.trans t')
/-- a value with what it owns -/
def Kd.own (C : Cf) : Kd C D V where
  post := fun A0 F H σ Q d env => ∀ v H' F' S, Tr (ow F) H (cup (inL S) (ow F')) H' → Wf C.K C.T (cup A0 (inL S)) C.P F' H' σ env → Ow C.K (cup (cup A0 (inL S)) (ow F')) H' v d S → (∀ b ∈ S, ¬ A0 b) → Q v H'
  trans := fun t h v H' F' S t' => h v H' F' S (t.trans t')
def Pst (C : Cf) (kd : Kd C α β) (A0 : As) (F : Fo) (H : Hp) (σ : L2.St) (Q : β → Hp → Prop) : Res α → Prop
  | .ok a env => kd.post A0 F H σ Q a env
  | .exn c d env => ∀ H' F' cls dd, Tr (ow F) H (ow F') H' → Wf C.K C.T A0 C.P F' H' σ env → Exn C (cup A0 (ow F')) H' c d cls dd → C.W cls dd σ H'
theorem Pst.trans {C : Cf} {kd : Kd C α β} {A0 : As} {F F1 : Fo} {H H1 : Hp} {σ : L2.St} {Q : β → Hp → Prop} (t : Tr (ow F) H (ow F1) H1) : ∀ {r : Res α}, Pst C kd A0 F H σ Q r → Pst C kd A0 F1 H1 σ Q r
  | .ok a env, h => kd.trans t h
  | .exn c d env, h => fun H' F' cls dd t' => h H' F' cls dd (t.trans t')
/-- m at env -/
def tAt (C : Cf) (kd : Kd C α β) (m : M α) (A0 : As) (F : Fo) (env : Env) (σ : L2.St) (H : Hp) (Q : β → Hp → Prop) : Prop := ∃ r, m env = some r ∧ Pst C kd A0 F H σ Q r
def tG (C : Cf) (kd : Kd C α β) (m : M α) : L2.St → Hp → (β → Hp → Prop) → Prop := fun σ H Q => ∃ A0 F env, Wf C.K C.T A0 C.P F H σ env ∧ tAt C kd m A0 F env σ H Q
section
variable {C : Cf} {A0 : As} {F : Fo} {env : Env} {σ : L2.St} {H : Hp}
theorem tAt_bind {kd : Kd C γ δ} {J : Rel α β} {m : M α} {k : α → M γ} {Q : δ → Hp → Prop} {Q1 : β → Hp → Prop} (wf : Wf C.K C.T A0 C.P F H σ env) (h : tAt C kd (M.bind m k) A0 F env σ H Q)
    (hk : ∀ b H1 F1 env1 a, Tr (ow F) H (ow F1) H1 → Wf C.K C.T A0 C.P F1 H1 σ env1 → J a σ (cup A0 (ow F1)) H1 b → tAt C kd (k a) A0 F1 env1 σ H1 Q → Q1 b H1) : tG C (.of C J) m σ H Q1 := by
  obtain ⟨r, e, p⟩ := h
  refine ⟨A0, F, env, wf, ?_⟩
  unfold M.bind at e
  cases hm : m env with
  | none => rw [hm] at e; cases e
  | some q =>
    rw [hm] at e
    refine ⟨q, hm, ?_⟩
    cases q with
    | exn c d env' =>
      cases e
      exact p
    | ok a env' => exact fun b H1 F1 t w j => hk b H1 F1 env' a t w j ⟨r, e, p.trans t⟩
/-- the same ahead of a value that is frozen -/
theorem Wf.frozen {S : List Addr} (w : Wf C.K C.T (cup A0 (inL S)) C.P F H σ env) : Wf C.K C.T A0 C.P F H σ env := w.less fun _ => .inl
theorem Ow.frozen {K : PySem.W.Frag} {Av : As} {v : V} {d : D} {S : List Addr} (h : Ow K Av H v d S) {Av' : As} (hs : ∀ b, Av' b → Av b) (hn : ∀ b ∈ S, ¬ Av' b) : Pu K Av' H v d.fz := by
  cases h with
  | pu h => rw [h.fz]; exact h.stay (stays_less hs)
  | lst h hs' => exact .lst (.inl ⟨.inl h, hn _ (by simp)⟩) (hs'.stay (stays_less hs))
end
/-- a pure value -/
def jPu (K : PySem.W.Frag) : Rel D V := fun d _ Av H v => Pu K Av H v d
def jOpd (K : PySem.W.Frag) : Rel Opd V := fun o σ Av H v => match o with
  | .val d => Pu K Av H v d
  | .pl i => σ[i]? = some (some v)
inductive All2 (R : α → β → Prop) : List α → List β → Prop
  | nil : All2 R [] []
  | cons {a : α} {b : β} {as : List α} {bs : List β} : R a b → All2 R as bs → All2 R (a :: as) (b :: bs)
def jOpds (K : PySem.W.Frag) : Rel (List Opd) (List V) := fun os σ Av H vs => All2 (fun o v => jOpd K o σ Av H v) os vs
def jPus (K : PySem.W.Frag) : Rel (List D) (List V) := fun ds _ Av H vs => Pus K Av H vs ds
def jB : Rel Bool Bool := fun a _ _ _ b => a = b
def jPart : Rel (Option Int) (Option Int) := fun a _ _ _ b => a = b
theorem jOpd.stay {K : PySem.W.Frag} {Av Av' : As} {H H' : Hp} {σ : L2.St} {o : Opd} {v : V} (x : Stays Av H Av' H') (h : jOpd K o σ Av H v) : jOpd K o σ Av' H' v := by
  cases o with
  | val d => exact Pu.stay x h
  | pl i => exact h
theorem jOpds.stay {K : PySem.W.Frag} {Av Av' : As} {H H' : Hp} {σ : L2.St} (x : Stays Av H Av' H') : ∀ {os : List Opd} {vs : List V}, jOpds K os σ Av H vs → jOpds K os σ Av' H' vs
  | _, _, .nil => .nil
  | _, _, .cons h hs => .cons (jOpd.stay x h) (jOpds.stay x hs)
abbrev tO (C : Cf) (m : M D) : TE := tG C (.own C) m
abbrev tF (C : Cf) (m : M D) : TE := tG C (.of C (jPu C.K)) m
abbrev tP (C : Cf) (m : M Opd) : TE := tG C (.of C (jOpd C.K)) m
abbrev tTst (C : Cf) (m : M Bool) : TT := tG C (.of C jB) m
abbrev tArgs (C : Cf) (m : M (List D)) : TA := tG C (.of C (jPus C.K)) m
abbrev tOpds (C : Cf) (m : M (List Opd)) : TA := tG C (.of C (jOpds C.K)) m
def fzM (m : M D) : M D := M.bind m fun d => M.ret d.fz

section
variable {X : Cx} {e : Expr} {C : Cf}
theorem _root_.L2.PE.mono {t t' : TE} (h : PE X e t) (k : ∀ σ H Q, t' σ H Q → t σ H Q) : PE X e t' := ⟨fun pins s σ H Q I q => h.run pins s σ H Q I (k σ H Q q)⟩
theorem _root_.L2.PT.mono {t t' : TT} (h : PT X e t) (k : ∀ σ H Q, t' σ H Q → t σ H Q) : PT X e t' := ⟨fun pins s σ H Q I q => h.run pins s σ H Q I (k σ H Q q)⟩
theorem _root_.L2.PA.mono {es : List Expr} {t t' : TA} (h : PA X es t) (k : ∀ σ H Q, t' σ H Q → t σ H Q) : PA X es t' := ⟨fun pos pins s σ H Q I q => h.run pos pins s σ H Q I (k σ H Q q)⟩
/-- what a value gives when it is frozen -/
theorem tO_fz {m : M D} {kd : Kd C γ δ} {k : D → M γ} {Q : δ → Hp → Prop} {Q1 : V → Hp → Prop} {A0 : As} {F : Fo} {env : Env} {σ : L2.St} {H : Hp} (wf : Wf C.K C.T A0 C.P F H σ env) (h : tAt C kd (M.bind m k) A0 F env σ H Q)
    (hk : ∀ v H1 F1 env1 d, Tr (ow F) H (ow F1) H1 → Wf C.K C.T A0 C.P F1 H1 σ env1 → Pu C.K (cup A0 (ow F1)) H1 v d.fz → tAt C kd (k d) A0 F1 env1 σ H1 Q → Q1 v H1) : tO C m σ H Q1 := by
  obtain ⟨r, e, p⟩ := h
  refine ⟨A0, F, env, wf, ?_⟩
  unfold M.bind at e
  cases hm : m env with
  | none => rw [hm] at e; cases e
  | some q =>
    rw [hm] at e
    refine ⟨q, hm, ?_⟩
    cases q with
    | exn c d env' =>
      cases e
      exact p
    | ok a env' =>
      intro v H1 F1 S t w o nS
      have t' : Tr (ow F) H (ow F1) H1 := t.less fun _ => .inr
      exact hk v H1 F1 env' a t' w.frozen (o.frozen (fun b z => z.imp .inl id) fun b hb z => z.elim (nS b hb) fun z => w.out b z (.inr hb)) ⟨r, e, p.trans t'⟩
/-- a value, frozen -/
theorem pe_fz {m : M D} (h : PE X e (tO C m)) : PE X e (tF C (fzM m)) := h.mono fun σ H Q ⟨A0, F, env, wf, q⟩ =>
  tO_fz wf q fun v H1 F1 env1 d t w pu ⟨r, e, p⟩ => by
    cases e
    exact p v H1 F1 Tr.refl w pu
/-- a frozen value as an operand -/
theorem pe_opd {m : M D} (h : PE X e (tO C m)) : PE X e (tP C (frozen m)) := h.mono fun σ H Q ⟨A0, F, env, wf, q⟩ =>
  tO_fz wf q fun v H1 F1 env1 d t w pu ⟨r, e, p⟩ => by
    cases e
    exact p v H1 F1 Tr.refl w pu
/-- what a value is at last: no more is owned by it -/
theorem own_of_pu {A0 : As} {F : Fo} {env : Env} {σ : L2.St} {H : Hp} {Q : V → Hp → Prop} {d : D} {v : V} (p : (Kd.own C).post A0 F H σ Q d env) (w : Wf C.K C.T A0 C.P F H σ env) (pu : Pu C.K (cup A0 (ow F)) H v d) : Q v H :=
  p v H F [] (Tr.refl.less fun b z => z.elim (fun z => nomatch z) id) (w.less fun b z => z.elim id fun z => nomatch z) (.pu (pu.stay (stays_less fun b z => z.elim (fun z => z.elim .inl fun z => nomatch z) .inr))) fun b z => nomatch z
/-- a new list, owned -/
theorem own_new {A0 : As} {F : Fo} {env : Env} {σ : L2.St} {H : Hp} {Q : V → Hp → Prop} {ds : List D} {vs : List V} {q : Addr} (p : (Kd.own C).post A0 F H σ Q (.own (.lst ds)) env) (w : Wf C.K C.T A0 C.P F H σ env) (pu : Pus C.K (cup A0 (ow F)) H vs ds)
    (hq : H q = none) : Q (.ref q) (upd H q (.lst vs)) := by
  refine p (.ref q) _ F [q] (Tr.newOwn hq) (w.newOwn hq) (.lst upd_same (pu.stay (fun a o h n nn => ⟨(Tr.new (O := fun _ => False) hq).keep a o h id nn, fun z => ?_⟩))) fun b hb z => ?_
  · rcases z with (z | z) | z
    · exact n (.inl z)
    · rw [List.mem_singleton.mp z, hq] at h; cases h
    · exact n (.inr z)
  · rw [List.mem_singleton.mp hb] at z
    exact w.dom q z hq
/-- a new tuple -/
theorem own_tup {A0 : As} {F : Fo} {env : Env} {σ : L2.St} {H : Hp} {Q : V → Hp → Prop} {ds : List D} {vs : List V} {q : Addr} (p : (Kd.own C).post A0 F H σ Q (.tup ds) env) (w : Wf C.K C.T A0 C.P F H σ env) (pu : Pus C.K (cup A0 (ow F)) H vs ds)
    (hq : H q = none) : Q (.ref q) (upd H q (.tup vs)) := by
  have t : Tr (ow F) H (ow F) (upd H q (.tup vs)) := Tr.new hq
  refine own_of_pu ((Kd.own C).trans t p) (w.new hq) (.tup (.inl ⟨.inl upd_same, ?_⟩) (pu.stay t.stays))
  rintro (z | z)
  · exact w.dom q z hq
  · obtain ⟨vs, e⟩ := w.odom q z
    rw [hq] at e; cases e

/-! ### operands -/
theorem bind_cases {m : M α} {k : α → M β} {env : Env} {r : Res β} (e : M.bind m k env = some r) : (∃ c d env', m env = some (.exn c d env') ∧ r = .exn c d env') ∨ ∃ a env', m env = some (.ok a env') ∧ k a env' = some r := by
  unfold M.bind at e
  cases h : m env with
  | none => rw [h] at e; cases e
  | some q =>
    rw [h] at e
    cases q with
    | exn c d env' => exact .inl ⟨c, d, env', rfl, (Option.some.inj e).symm⟩
    | ok a env' => exact .inr ⟨a, env', rfl, e⟩
theorem get_pl {i : Nat} {env : Env} {r : Res D} (e : (Opd.pl i).get env = some r) : ∃ d, env[i]? = some (some d) ∧ r = .ok d.fz env := by
  have e : (match env[i]? with
    | some (some d) => some (.ok d.fz env)
    | _ => none) = some r := e
  cases h : env[i]? with
  | none => rw [h] at e; cases e
  | some q =>
    rw [h] at e
    cases q with
    | none => cases e
    | some d => exact ⟨d, rfl, (Option.some.inj e).symm⟩
theorem get_ok {A0 : As} {F : Fo} {env env' : Env} {σ : L2.St} {H : Hp} {o : Opd} {v : V} {d : D} (w : Wf C.K C.T A0 C.P F H σ env) (j : jOpd C.K o σ (cup A0 (ow F)) H v) (e : o.get env = some (.ok d env')) : env' = env ∧ Op C.K (cup A0 (ow F)) H v d := by
  cases o with
  | val d' =>
    cases e
    exact ⟨rfl, .inl j⟩
  | pl i =>
    obtain ⟨d', hd, e⟩ := get_pl e
    cases e
    obtain ⟨u, h1, h2⟩ := w.slot i d' hd
    have j : σ[i]? = some (some v) := j
    rw [j] at h1
    cases h1
    exact ⟨rfl, h2.op⟩
theorem get_exn {o : Opd} {env env' : Env} {c : Nat} {d : D} (e : o.get env = some (.exn c d env')) : False := by
  cases o with
  | val d' => cases e
  | pl i => obtain ⟨_, _, e⟩ := get_pl e; cases e
theorem gets_ok {A0 : As} {F : Fo} {σ : L2.St} {H : Hp} : ∀ {os : List Opd} {vs : List V} {ds : List D} {env env' : Env}, Wf C.K C.T A0 C.P F H σ env → jOpds C.K os σ (cup A0 (ow F)) H vs → gets os env = some (.ok ds env') → env' = env ∧ All2 (fun d v => Op C.K (cup A0 (ow F)) H v d) ds vs
  | [], _, _, _, _, w, j, e => by
    cases j
    cases e
    exact ⟨rfl, .nil⟩
  | o :: os, _, _, env, _, w, j, e => by
    cases j with
    | cons j js =>
      rcases bind_cases e with ⟨c, d, env', h, e1⟩ | ⟨d, env1, hd, e1⟩
      · cases e1
      · obtain ⟨q, h1⟩ := get_ok w j hd
        rw [q] at e1
        rcases bind_cases e1 with ⟨c, d, env', h, e2⟩ | ⟨ds, env2, hds, e2⟩
        · cases e2
        · obtain ⟨q2, h2⟩ := gets_ok w js hds
          rw [q2] at e2
          cases e2
          exact ⟨rfl, .cons h1 h2⟩
theorem gets_exn : ∀ {os : List Opd} {env env' : Env} {c : Nat} {d : D}, gets os env = some (.exn c d env') → False
  | [], _, _, _, _, e => by cases e
  | o :: os, env, _, _, _, e => by
    rcases bind_cases e with ⟨c, d, env', h, e1⟩ | ⟨d, env1, hd, e1⟩
    · exact get_exn h
    · rcases bind_cases e1 with ⟨c, d, env', h, e2⟩ | ⟨ds, env2, hds, e2⟩
      · exact gets_exn h
      · cases e2
/-- what is told of operands, at last -/
theorem tAt_get {kd : Kd C γ δ} {k : D → M γ} {Q : δ → Hp → Prop} {A0 : As} {F : Fo} {env : Env} {σ : L2.St} {H : Hp} {o : Opd} {v : V} (w : Wf C.K C.T A0 C.P F H σ env) (j : jOpd C.K o σ (cup A0 (ow F)) H v)
    (h : tAt C kd (M.bind o.get k) A0 F env σ H Q) : ∃ d, Op C.K (cup A0 (ow F)) H v d ∧ tAt C kd (k d) A0 F env σ H Q := by
  obtain ⟨r, e, p⟩ := h
  rcases bind_cases e with ⟨c, d, env', h, e1⟩ | ⟨d, env1, hd, e1⟩
  · exact (get_exn h).elim
  · obtain ⟨q, h1⟩ := get_ok w j hd
    rw [q] at e1
    exact ⟨d, h1, r, e1, p⟩
theorem tAt_gets {kd : Kd C γ δ} {k : List D → M γ} {Q : δ → Hp → Prop} {A0 : As} {F : Fo} {env : Env} {σ : L2.St} {H : Hp} {os : List Opd} {vs : List V} (w : Wf C.K C.T A0 C.P F H σ env) (j : jOpds C.K os σ (cup A0 (ow F)) H vs)
    (h : tAt C kd (M.bind (gets os) k) A0 F env σ H Q) : ∃ ds, All2 (fun d v => Op C.K (cup A0 (ow F)) H v d) ds vs ∧ tAt C kd (k ds) A0 F env σ H Q := by
  obtain ⟨r, e, p⟩ := h
  rcases bind_cases e with ⟨c, d, env', h, e1⟩ | ⟨d, env1, hd, e1⟩
  · exact (gets_exn h).elim
  · obtain ⟨q, h1⟩ := gets_ok w j hd
    rw [q] at e1
    exact ⟨d, h1, r, e1, p⟩
theorem tAt_opt {kd : Kd C γ δ} {Q : δ → Hp → Prop} {A0 : As} {F : Fo} {env : Env} {σ : L2.St} {H : Hp} {o : Option γ} (h : tAt C kd (M.opt o) A0 F env σ H Q) : ∃ d, o = some d ∧ kd.post A0 F H σ Q d env := by
  obtain ⟨r, e, p⟩ := h
  unfold M.opt at e
  cases o with
  | none => cases e
  | some d =>
    cases e
    exact ⟨d, rfl, p⟩
theorem tAt_ret {kd : Kd C γ δ} {Q : δ → Hp → Prop} {A0 : As} {F : Fo} {env : Env} {σ : L2.St} {H : Hp} {d : γ} (h : tAt C kd (M.ret d) A0 F env σ H Q) : kd.post A0 F H σ Q d env := by
  obtain ⟨r, e, p⟩ := h
  cases e
  exact p
theorem tAt_fail {kd : Kd C γ δ} {Q : δ → Hp → Prop} {A0 : As} {F : Fo} {env : Env} {σ : L2.St} {H : Hp} (h : tAt C kd M.fail A0 F env σ H Q) : False := by
  obtain ⟨r, e, p⟩ := h
  cases e
end
end Dz

set_option Elab.async false
set_option linter.all false
set_option maxRecDepth 100000
set_option maxHeartbeats 2000000
/-! Dz, part 5: the expressions' rules. -/
namespace Dz
open PySem PySem.Spec PyProof.Rows L2

theorem lim_eq : lim = sizeLine := by rw [sizeLine_eq]; rfl
/-- what is fixed but the written part -/
structure Bs where
  T : Tb
  P : Nat → Option Addr
  W : WX
  ec : Nat → Option (Addr × Str)
abbrev cf (X : Cx) (B : Bs) : Cf := ⟨X.K, B.T, B.P, B.W, B.ec⟩
section
variable {X : Cx} {B : Bs} {Γ : Sig} {pos : Pos} {e a b c : Expr}

/-! ### constants, names -/
theorem arr_list (x : Str) : (⟨x.cps.toList.toArray⟩ : Str) = x := by cases x; simp
theorem tO_const {d : D} {v : V} (h : ∀ Av H, Pu X.K Av H v d) : ∀ σ H Q, tO (cf X B) (M.ret d) σ H Q → tC v σ H Q := fun σ H Q ⟨A0, F, env, w, q⟩ => own_of_pu (tAt_ret q) w (h _ _)
theorem de_int {i : Int} {k : Nat} : PE X (.Constant (.int i) k pos) (tO (cf X B) (M.ret (.int i))) := pe_int.mono (tO_const fun _ _ => .int i)
theorem de_bl {i : Bool} {k : Nat} : PE X (.Constant (.bool i) k pos) (tO (cf X B) (M.ret (.bl i))) := pe_bl.mono (tO_const fun _ _ => .bl i)
theorem de_non {k : Nat} : PE X (.Constant .none k pos) (tO (cf X B) (M.ret .non)) := pe_non.mono (tO_const fun _ _ => .non)
theorem de_str {x : Str} {k : Nat} : PE X (.Constant (.str x) k pos) (tO (cf X B) (M.ret (.str x.cps.toList))) := pe_str.mono (tO_const fun Av H => by
  have h := Pu.str (K := X.K) (Av := Av) (H := H) x.cps.toList
  rw [arr_list] at h
  exact h)

section
variable {C : Cf} {A0 : As} {F : Fo} {env : Env} {σ : L2.St} {H : Hp}
theorem varF_ok {i : Nat} {r : Res D} (e : varF Γ i env = some r) : ∃ d, env[i]? = some (some d) ∧ ((d.isOwn = false ∧ r = .ok d env) ∨ (d.isOwn = true ∧ Γ.pin i = false ∧ r = .ok d.fz (env.set i (some d.fz)))) := by
  unfold varF at e
  cases h : env[i]? with
  | none => rw [h] at e; cases e
  | some q =>
    rw [h] at e
    cases q with
    | none => cases e
    | some d =>
      refine ⟨d, rfl, ?_⟩
      cases ho : d.isOwn with
      | false =>
        simp only [ho] at e
        exact .inl ⟨rfl, (Option.some.inj e).symm⟩
      | true =>
        simp only [ho, if_true] at e
        cases hp : Γ.pin i with
        | true => rw [hp] at e; cases e
        | false =>
          rw [hp] at e
          exact .inr ⟨rfl, rfl, (Option.some.inj e).symm⟩
def dropF (F : Fo) (i : Nat) : Fo := fun j => if j = i then [] else F j
theorem dropF_le {i : Nat} : ∀ b, ow (dropF F i) b → ow F b := fun b ⟨j, h⟩ => by
  unfold dropF at h
  split at h
  · cases h
  · exact ⟨j, h⟩
theorem dropF_not {i : Nat} (w : Wf C.K C.T A0 C.P F H σ env) : ∀ b ∈ F i, ¬ ow (dropF F i) b := fun b hb ⟨j, h⟩ => by
  unfold dropF at h
  split at h
  · cases h
  · rename_i n; exact n (w.disj _ _ b h hb)
/-- a name's object is owned no more -/
theorem Wf.freeze {i : Nat} {d : D} (w : Wf C.K C.T A0 C.P F H σ env) (e : env[i]? = some (some d)) : Wf C.K C.T A0 C.P (dropF F i) H σ (env.set i (some d.fz)) := by
  have hi : i < env.length := (List.getElem?_eq_some_iff.mp e).1
  have hle : ∀ b, cup A0 (ow (dropF F i)) b → cup A0 (ow F) b := fun b z => z.imp id (dropF_le b)
  refine ⟨by rw [List.length_set]; exact w.len, fun j d' e' => ?_, fun j h => ?_, fun j k b h1 h2 => ?_, fun b z => w.out b (dropF_le b z), w.dom, w.tabs, w.pins⟩
  · by_cases hj : j = i
    · subst hj
      rw [List.getElem?_set_self hi] at e'
      cases e'
      obtain ⟨v, h1, h2⟩ := w.slot j d e
      refine ⟨v, h1, ?_⟩
      have : dropF F j j = [] := by unfold dropF; rw [if_pos rfl]
      rw [this]
      exact .pu (h2.frozen hle fun b hb z => z.elim (w.out b ⟨j, hb⟩) (dropF_not w b hb))
    · rw [List.getElem?_set_ne (Ne.symm hj)] at e'
      obtain ⟨v, h1, h2⟩ := w.slot j d' e'
      have : dropF F i j = F j := by unfold dropF; rw [if_neg hj]
      rw [this]
      exact ⟨v, h1, h2.stay (stays_less hle) fun _ _ _ q => q⟩
  · unfold dropF
    split
    · rfl
    · rename_i n
      exact w.emp j fun d' e' => h d' (by rw [List.getElem?_set_ne (Ne.symm n)]; exact e')
  · unfold dropF at h1 h2
    split at h1
    · cases h1
    · split at h2
      · cases h2
      · exact w.disj j k b h1 h2
end
theorem de_var {i : Nat} {x : Str} (hN : X.N[i]? = some x) (hv : Vis X.env.scope x) (hd : (x == ("__debug__" : Str)) = false) (hcd : (x == ("__classdict__" : Str)) = false) : PE X (.Name x pos) (tO (cf X B) (varF Γ i)) := by
  refine (pe_var hN hv hd hcd).mono fun σ H Q ⟨A0, F, env, w, r, e, p⟩ => ?_
  obtain ⟨d, hd, h⟩ := varF_ok e
  obtain ⟨v, h1, h2⟩ := w.slot i d hd
  refine ⟨v, h1, ?_⟩
  rcases h with ⟨no, rfl⟩ | ⟨o, np, rfl⟩
  · have pu := h2.frozen (Av' := cup A0 (ow F)) (fun _ z => z) fun b hb => by rw [w.emp i fun d' e' => by rw [hd] at e'; cases e'; exact no] at hb; cases hb
    rw [D.fz_of no] at pu
    exact own_of_pu p w pu
  · have w2 := w.freeze hd
    have pu : Pu X.K (cup A0 (ow (dropF F i))) H v d.fz := by
      have this := h2.frozen (Av' := cup A0 (ow (dropF F i))) (fun b z => z.imp id (dropF_le b)) fun b hb z => z.elim (w.out b ⟨i, hb⟩) (dropF_not w b hb)
      exact this
    exact own_of_pu ((Kd.own (cf X B)).trans (Tr.refl.less dropF_le) p) w2 pu
theorem varR_ok {i : Nat} {env : Env} {r : Res Opd} (e : varR i env = some r) : (∃ d, env[i]? = some (some d)) ∧ r = .ok (.pl i) env := by
  unfold varR at e
  cases h : env[i]? with
  | none => rw [h] at e; cases e
  | some q =>
    rw [h] at e
    cases q with
    | none => cases e
    | some d => exact ⟨⟨d, rfl⟩, (Option.some.inj e).symm⟩
theorem dp_var {i : Nat} {x : Str} (hN : X.N[i]? = some x) (hv : Vis X.env.scope x) (hd : (x == ("__debug__" : Str)) = false) (hcd : (x == ("__classdict__" : Str)) = false) : PE X (.Name x pos) (tP (cf X B) (varR i)) := by
  refine (pe_var hN hv hd hcd).mono fun σ H Q ⟨A0, F, env, w, r, e, p⟩ => ?_
  obtain ⟨⟨d, hd⟩, rfl⟩ := varR_ok e
  obtain ⟨v, h1, h2⟩ := w.slot i d hd
  exact ⟨v, h1, p v H F Tr.refl w h1⟩

/-! ### two operands -/
theorem two_op {ma mb : M Opd} {f : D → D → M D} {r : R2} (hr : ∀ A0 F env σ H x y d1 d2 Q, Wf X.K B.T A0 B.P F H σ env → Op X.K (cup A0 (ow F)) H x d1 → Op X.K (cup A0 (ow F)) H y d2 → tAt (cf X B) (.own (cf X B)) (f d1 d2) A0 F env σ H Q → r x y H Q) :
    ∀ σ H Q, tO (cf X B) (two f ma mb) σ H Q → tOp r (tP (cf X B) ma) (tP (cf X B) mb) σ H Q := by
  rintro σ H Q ⟨A0, F, env, w, q⟩
  refine tAt_bind w q fun x H1 F1 env1 o1 t1 w1 j1 q1 => tAt_bind w1 q1 fun y H2 F2 env2 o2 t2 w2 j2 q2 => ?_
  obtain ⟨d1, p1, q3⟩ := tAt_get w2 (jOpd.stay t2.stays j1) q2
  obtain ⟨d2, p2, q4⟩ := tAt_get w2 j2 q3
  exact hr A0 F2 env2 σ H2 x y d1 d2 Q w2 p1 p2 q4
section
variable {A0 : As} {F : Fo} {env : Env} {σ : L2.St} {H : Hp} {x y : V} {d1 d2 : D} {Q : VK}
theorem small64_ok {i : Int} (h : small64 i = true) : -(2 ^ 64) < i ∧ i < 2 ^ 64 := of_decide_eq_true h
theorem str_len (l : List Nat) : (⟨l.toArray⟩ : Str).length = l.length := by simp [Str.length]
theorem str_app (s t : List Nat) : (⟨s.toArray⟩ : Str) ++ (⟨t.toArray⟩ : Str) = ⟨(s ++ t).toArray⟩ := by
  show (⟨s.toArray ++ t.toArray⟩ : Str) = _
  simp
end
/-! ### operators -/
def rCatL (K : PySem.W.Frag) : R2 := fun x y H Q => ∃ l b xs zs, x = .ref l ∧ y = .ref b ∧ SqL K H l xs ∧ SqL K H b zs ∧ xs.length + zs.length ≤ sizeLine ∧ ∀ p, H p = none → Q (.ref p) (upd H p (.lst (xs ++ zs)))
theorem op_catL : OpR X (binaryOp .Add) (rCatL X.K) := by
  intro pins s σ H x y v u Q I rx ry h
  obtain ⟨l, b, xs, zs, rfl, rfl, hl, hb, hz, q⟩ := h
  cases rx
  cases ry
  obtain ⟨its, r, pl, _⟩ := I.list hl
  obtain ⟨its2, r2, pl2, _⟩ := I.list hb
  obtain ⟨⟨k1, dd, dt, sl⟩, n, hO, hC, _, hD⟩ := pl
  obtain ⟨⟨k2, dd2, dt2, sl2⟩, n2, hO2, hC2, _, hD2⟩ := pl2
  simp only at hC hD hC2 hD2
  subst hC hD hC2 hD2
  have e : its.toArray ++ its2.toArray = (its ++ its2).toArray := by simp
  have l1 := r.length
  have l2 := r2.length
  have W := list_addW l b its.toArray its2.toArray n n2 dd dd2 sl sl2 (by simp only [List.size_toArray]; omega)
  refine concat_meets ⟨_, hO, rfl⟩ ⟨_, hO2, rfl⟩ noFill_list_add seq_list_add PySem.F.slot_list_add
    PySem.F.entry_list_add (PySem.F.args_list_add_2 _ _) W ⟨hO, hO2, ?_⟩
  rw [e]
  exact ⟨.ref _, _, I.lnew (t' := s.toks) (r.append r2) (by rw [List.length_append]; omega), rfl, q _ I.fresh⟩
theorem de_add {ma mb : M Opd} (ha : PE X a (tP (cf X B) ma)) (hb : PE X b (tP (cf X B) mb)) : PE X (.BinOp a .Add b pos) (tO (cf X B) (two (fun x y => M.opt (binD .add x y)) ma mb)) := by
  refine (pe_op ((op_add.or op_add_str).or op_catL) ha hb).mono (two_op fun A0 F env σ H x y d1 d2 Q w p1 p2 q => ?_)
  obtain ⟨d, e, q⟩ := tAt_opt q
  cases d1 <;> cases d2 <;> simp only [binD] at e <;> first | cases e; done | skip
  · cases e
    rw [p1.int, p2.int]
    exact .inl (.inl ⟨_, _, rfl, rfl, own_of_pu q w (.int _)⟩)
  · rename_i s t
    split at e
    · cases e
      rw [p1.str, p2.str]
      rename_i hz
      rw [lim_eq] at hz
      refine .inl (.inr ⟨_, _, rfl, rfl, by rw [str_len, str_len]; exact hz, ?_⟩)
      rw [str_app]
      exact own_of_pu q w (.str _)
    · cases e
  · rename_i s t
    split at e
    · cases e
      rename_i hz
      rw [lim_eq] at hz
      obtain ⟨l1, xs, rfl, h1, u1⟩ := p1.list
      obtain ⟨l2, ys, rfl, h2, u2⟩ := p2.list
      refine .inr ⟨l1, l2, xs, ys, rfl, rfl, h1, h2, by rw [u1.length, u2.length]; exact hz, fun p hp => ?_⟩
      exact own_new q w (u1.append u2) hp
    · cases e
theorem de_arith {op : Operator} {o : Op2} {Cc : Int → Int → Prop} {g : Int → Int → Int} {ma mb : M Opd} (ho : OpR X (binaryOp op) (rI Cc fun i j => .int (g i j)))
    (hb' : ∀ d1 d2 d, binD o d1 d2 = some d → ∃ i j, d1 = .int i ∧ d2 = .int j ∧ d = .int (g i j) ∧ Cc i j) (ha : PE X a (tP (cf X B) ma)) (hb : PE X b (tP (cf X B) mb)) :
    PE X (.BinOp a op b pos) (tO (cf X B) (two (fun x y => M.opt (binD o x y)) ma mb)) := by
  refine (pe_op ho ha hb).mono (two_op fun A0 F env σ H x y d1 d2 Q w p1 p2 q => ?_)
  obtain ⟨d, e, q⟩ := tAt_opt q
  obtain ⟨i, j, rfl, rfl, rfl, hc⟩ := hb' _ _ _ e
  rw [p1.int, p2.int]
  exact ⟨_, _, rfl, rfl, hc, own_of_pu q w (.int _)⟩
theorem op_sub' : OpR X (binaryOp .Sub) (rI (fun _ _ => True) fun i j => .int (i - j)) := fun pins s σ H x y v u Q I rx ry ⟨i, j, h1, h2, _, q⟩ => op_sub pins s σ H x y v u Q I rx ry ⟨i, j, h1, h2, q⟩
theorem de_bin {op : Operator} {o : Op2} {ma mb : M Opd} (ho : (match op with | .Add => some Op2.add | .Sub => some .sub | .Mult => some .mul | .FloorDiv => some .fdiv | .Mod => some .mod | .Pow => some .pow | _ => none) = some o)
    (ha : PE X a (tP (cf X B) ma)) (hb : PE X b (tP (cf X B) mb)) : PE X (.BinOp a op b pos) (tO (cf X B) (two (fun x y => M.opt (binD o x y)) ma mb)) := by
  cases op <;> cases ho
  · exact de_add ha hb
  · refine de_arith op_sub' (fun d1 d2 d e => ?_) ha hb
    cases d1 <;> cases d2 <;> simp only [binD] at e <;> first | cases e | skip
    exact ⟨_, _, rfl, rfl, rfl, trivial⟩
  · refine de_arith op_mul (fun d1 d2 d e => ?_) ha hb
    cases d1 <;> cases d2 <;> simp only [binD] at e <;> first | cases e | skip
    split at e
    · cases e
      rename_i hz
      refine ⟨_, _, rfl, rfl, rfl, ?_⟩
      rcases Bool.or_eq_true_iff.mp hz with z | z
      · exact .inl (small64_ok z)
      · exact .inr (small64_ok z)
    · cases e
  · refine de_arith op_modN (fun d1 d2 d e => ?_) ha hb
    cases d1 <;> cases d2 <;> simp only [binD] at e <;> first | cases e | skip
    split at e
    · cases e
      rename_i hz
      exact ⟨_, _, rfl, rfl, rfl, hz⟩
    · cases e
  · refine de_arith op_pow (fun d1 d2 d e => ?_) ha hb
    cases d1 <;> cases d2 <;> simp only [binD] at e <;> first | cases e | skip
    split at e
    · cases e
      rename_i hz
      exact ⟨_, _, rfl, rfl, rfl, hz⟩
    · cases e
  · refine de_arith op_fdivN (fun d1 d2 d e => ?_) ha hb
    cases d1 <;> cases d2 <;> simp only [binD] at e <;> first | cases e | skip
    split at e
    · cases e
      rename_i hz
      exact ⟨_, _, rfl, rfl, rfl, hz⟩
    · cases e
theorem de_neg {m : M D} (ha : PE X a (tO (cf X B) m)) : PE X (.UnaryOp .USub a pos) (tO (cf X B) (negF m)) := by
  refine (pe_un un_neg ha).mono fun σ H Q ⟨A0, F, env, w, q⟩ => tO_fz w q fun v H1 F1 env1 d t w1 pu q1 => ?_
  cases d with
  | int i =>
    cases pu
    exact ⟨i, rfl, own_of_pu (tAt_ret q1) w1 (.int _)⟩
  | _ => exact (tAt_fail q1).elim

/-! ### comparisons -/
theorem bind_assoc {α β γ : Type} (m : M α) (f : α → M β) (g : β → M γ) : M.bind (M.bind m f) g = M.bind m fun a => M.bind (f a) g := by
  funext env
  unfold M.bind
  cases m env with
  | none => rfl
  | some q => cases q <;> rfl
theorem ret_bind {α β : Type} (a : α) (f : α → M β) : M.bind (M.ret a) f = f a := rfl
theorem fail_bind {α β : Type} (f : α → M β) : M.bind M.fail f = M.fail := rfl
theorem two_op2 {γ δ : Type} {kd : Kd (cf X B) γ δ} {g : D → M γ} {ma mb : M Opd} {f : D → D → M D} {r : R2} {Q : δ → Hp → Prop} {Q' : VK} (hr : ∀ A0 F env σ H x y d1 d2, Wf X.K B.T A0 B.P F H σ env → Op X.K (cup A0 (ow F)) H x d1 → Op X.K (cup A0 (ow F)) H y d2 → tAt (cf X B) kd (M.bind (f d1 d2) g) A0 F env σ H Q → r x y H Q') :
    ∀ σ H, tG (cf X B) kd (M.bind (two f ma mb) g) σ H Q → tOp r (tP (cf X B) ma) (tP (cf X B) mb) σ H Q' := by
  rintro σ H ⟨A0, F, env, w, q⟩
  unfold two at q
  simp only [bind_assoc] at q
  refine tAt_bind w q fun x H1 F1 env1 o1 t1 w1 j1 q1 => tAt_bind w1 q1 fun y H2 F2 env2 o2 t2 w2 j2 q2 => ?_
  obtain ⟨d1, p1, q3⟩ := tAt_get w2 (jOpd.stay t2.stays j1) q2
  obtain ⟨d2, p2, q4⟩ := tAt_get w2 j2 q3
  exact hr A0 F2 env2 σ H2 x y d1 d2 w2 p1 p2 q4
theorem tAt_test {A0 : As} {F : Fo} {env : Env} {σ : L2.St} {H : Hp} {o : Option Bool} {Q : Bool → Hp → Prop} (w : Wf X.K B.T A0 B.P F H σ env)
    (q : tAt (cf X B) (.of (cf X B) jB) (M.bind (M.opt (o.map D.bl)) fun d => M.bind (M.ret (Opd.val d.fz)) fun x => M.bind x.get fun x => M.opt (truth x)) A0 F env σ H Q) : ∃ t, o = some t ∧ Q t H := by
  obtain ⟨r, e, p⟩ := q
  cases o with
  | none => cases e
  | some t =>
    cases e
    exact ⟨t, rfl, p t H F Tr.refl w rfl⟩
/-- a comparison, as a value and as a test -/
def PB (X : Cx) (B : Bs) (e : Expr) (m : M D) : Prop := PE X e (tO (cf X B) m) ∧ PT X e (tTst (cf X B) (testV (frozen m)))
theorem de_cmp {op : CmpOp} {k : Cm} {r : R2} {ma mb : M Opd} (ho : OpR X (compareOp op) r) (hm : behindInMarks op b = false)
    (hr : ∀ Av H x y d1 d2 t, Op X.K Av H x d1 → Op X.K Av H y d2 → cmpD k d1 d2 = some t → ∀ Q : VK, Q (.bl t) H → r x y H Q)
    (ha : PE X a (tP (cf X B) ma)) (hb : PE X b (tP (cf X B) mb)) : PB X B (.Compare a [op] [b] pos) (two (fun x y => M.opt ((cmpD k x y).map .bl)) ma mb) := by
  constructor
  · refine (pe_cmpR ho ha hb hm).mono (two_op fun A0 F env σ H x y d1 d2 Q w p1 p2 q => ?_)
    obtain ⟨d, e, q⟩ := tAt_opt q
    cases hc : cmpD k d1 d2 with
    | none => rw [hc] at e; cases e
    | some t =>
      rw [hc] at e
      cases e
      exact hr _ _ _ _ _ _ _ p1 p2 hc _ (own_of_pu q w (.bl _))
  · refine (pt_cmpR ho ha hb hm).mono fun σ H Q q => ?_
    unfold testV frozen at q
    rw [bind_assoc] at q
    refine two_op2 (fun A0 F env σ H x y d1 d2 w p1 p2 q => ?_) σ H q
    obtain ⟨t, hc, q⟩ := tAt_test w q
    exact hr _ _ _ _ _ _ _ p1 p2 hc _ ⟨t, rfl, q⟩
theorem op_eqG (hu : X.A.units + 64 < cLine) {Av : As} {H : Hp} {x y : V} {d1 d2 : D} {t : Bool} (p1 : Op X.K Av H x d1) (p2 : Op X.K Av H y d2) (e : eqD d1 d2 = some t) (Q : VK) (q : Q (.bl t) H) : rEq x y H Q ∨ rEqD X.K x y H Q := by
  unfold eqD at e
  split at e
  · cases e
    rw [p1.int, p2.int]
    exact .inl ⟨rfl, by simpa using q⟩
  · cases e
    rw [p1.str, p2.str]
    refine .inl ⟨rfl, ?_⟩
    rename_i s t
    have : decide (V.str ⟨s.toArray⟩ = V.str ⟨t.toArray⟩) = decide (s = t) := by simp
    rw [this]
    exact q
  · cases e
    rw [p1.bl, p2.bl]
    exact .inl ⟨rfl, by simpa using q⟩
  · split at e
    · cases e
      rename_i hz
      obtain ⟨h1, h2⟩ := Bool.and_eq_true_iff.mp hz
      exact .inr ⟨_, _, p1.dp, p2.dp, h1, h2, q⟩
    · cases e
theorem op_neG (hu : X.A.units + 64 < cLine) {Av : As} {H : Hp} {x y : V} {d1 d2 : D} {t : Bool} (p1 : Op X.K Av H x d1) (p2 : Op X.K Av H y d2) (e : eqD d1 d2 = some t) (Q : VK) (q : Q (.bl (!t)) H) : rNe x y H Q ∨ rNeD X.K x y H Q := by
  unfold eqD at e
  split at e
  · cases e
    rw [p1.int, p2.int]
    exact .inl ⟨rfl, by simpa using q⟩
  · cases e
    rw [p1.str, p2.str]
    refine .inl ⟨rfl, ?_⟩
    rename_i s t
    have : decide (V.str ⟨s.toArray⟩ = V.str ⟨t.toArray⟩) = decide (s = t) := by simp
    rw [this]
    exact q
  · cases e
    rw [p1.bl, p2.bl]
    exact .inl ⟨rfl, by simpa using q⟩
  · split at e
    · cases e
      rename_i hz
      obtain ⟨h1, h2⟩ := Bool.and_eq_true_iff.mp hz
      exact .inr ⟨_, _, p1.dp, p2.dp, h1, h2, q⟩
    · cases e
def ordK : Cm → Int → Int → Bool
  | .lt, i, j => decide (i < j)
  | .le, i, j => decide (i ≤ j)
  | .gt, i, j => decide (j < i)
  | _, i, j => decide (j ≤ i)
theorem cmp_ord {Av : As} {H : Hp} {x y : V} {d1 d2 : D} {t : Bool} {k : Cm} (p1 : Op X.K Av H x d1) (p2 : Op X.K Av H y d2) (h : k = .lt ∨ k = .le ∨ k = .gt ∨ k = .ge) (e : cmpD k d1 d2 = some t) :
    ∃ i j, x = .int i ∧ y = .int j ∧ t = ordK k i j := by
  rcases h with rfl | rfl | rfl | rfl
  all_goals
    cases d1 <;> cases d2 <;> simp only [cmpD] at e <;> first | cases e; done | skip
    cases e
    exact ⟨_, _, p1.int, p2.int, rfl⟩
theorem de_compare (hu : X.A.units + 64 < cLine) {op : CmpOp} {k : Cm} {ma mb : M Opd} (hk : (match op with | .Lt => some Cm.lt | .LtE => some .le | .Gt => some .gt | .GtE => some .ge | .Eq => some .eq | .NotEq => some .ne | _ => none) = some k)
    (ha : PE X a (tP (cf X B) ma)) (hb : PE X b (tP (cf X B) mb)) : PB X B (.Compare a [op] [b] pos) (two (fun x y => M.opt ((cmpD k x y).map .bl)) ma mb) := by
  cases op <;> first | cases hk; done | skip
  · cases hk
    exact de_cmp (op_eq.or (op_eqD hu)) (nomark _) (fun Av H x y d1 d2 t p1 p2 e Q q => op_eqG hu p1 p2 e Q q) ha hb
  · cases hk
    refine de_cmp (op_ne.or (op_neD hu)) (nomark _) (fun Av H x y d1 d2 t p1 p2 e Q q => ?_) ha hb
    have e : (eqD d1 d2).map (!·) = some t := e
    cases he : eqD d1 d2 with
    | none => rw [he] at e; cases e
    | some u =>
      rw [he] at e
      cases e
      exact op_neG hu p1 p2 he Q q
  · cases hk
    refine de_cmp op_lt (nomark _) (fun Av H x y d1 d2 t p1 p2 e Q q => ?_) ha hb
    obtain ⟨i, j, rfl, rfl, rfl⟩ := cmp_ord p1 p2 (by simp) e
    exact ⟨i, j, rfl, rfl, q⟩
  · cases hk
    refine de_cmp op_le (nomark _) (fun Av H x y d1 d2 t p1 p2 e Q q => ?_) ha hb
    obtain ⟨i, j, rfl, rfl, rfl⟩ := cmp_ord p1 p2 (by simp) e
    exact ⟨i, j, rfl, rfl, q⟩
  · cases hk
    refine de_cmp op_gt (nomark _) (fun Av H x y d1 d2 t p1 p2 e Q q => ?_) ha hb
    obtain ⟨i, j, rfl, rfl, rfl⟩ := cmp_ord p1 p2 (by simp) e
    exact ⟨i, j, rfl, rfl, q⟩
  · cases hk
    refine de_cmp op_ge (nomark _) (fun Av H x y d1 d2 t p1 p2 e Q q => ?_) ha hb
    obtain ⟨i, j, rfl, rfl, rfl⟩ := cmp_ord p1 p2 (by simp) e
    exact ⟨i, j, rfl, rfl, q⟩

/-! ### and, or, not, if -/
theorem de_and {rest : List Expr} {ma mb : M D} (ha : PE X a (tO (cf X B) ma)) (hb : PE X (.BoolOp .And (b :: rest) pos) (tO (cf X B) mb)) : PE X (.BoolOp .And (a :: b :: rest) pos) (tO (cf X B) (andF ma mb)) := by
  refine (pe_and ha hb).mono fun σ H Q ⟨A0, F, env, w, q⟩ => tO_fz w q fun v H1 F1 env1 d t w1 pu q1 => ?_
  cases d with
  | bl k =>
    cases pu
    refine ⟨k, rfl, ?_⟩
    cases k with
    | true => exact ⟨A0, F1, env1, w1, q1⟩
    | false => exact own_of_pu (tAt_ret q1) w1 (.bl _)
  | _ => exact (tAt_fail q1).elim
theorem de_or {rest : List Expr} {ma mb : M D} (ha : PE X a (tO (cf X B) ma)) (hb : PE X (.BoolOp .Or (b :: rest) pos) (tO (cf X B) mb)) : PE X (.BoolOp .Or (a :: b :: rest) pos) (tO (cf X B) (orF ma mb)) := by
  refine (pe_or ha hb).mono fun σ H Q ⟨A0, F, env, w, q⟩ => tO_fz w q fun v H1 F1 env1 d t w1 pu q1 => ?_
  cases d with
  | bl k =>
    cases pu
    refine ⟨k, rfl, ?_⟩
    cases k with
    | true => exact own_of_pu (tAt_ret q1) w1 (.bl _)
    | false => exact ⟨A0, F1, env1, w1, q1⟩
  | _ => exact (tAt_fail q1).elim
theorem dt_and {rest : List Expr} {ma mb : M Bool} (ha : PT X a (tTst (cf X B) ma)) (hb : PW X (.BoolOp .And (b :: rest) pos) (tTst (cf X B) mb)) : PW X (.BoolOp .And (a :: b :: rest) pos) (tTst (cf X B) (andT ma mb)) := by
  refine ⟨fun wh pins s σ H Q I h => (pw_and ha hb).run wh pins s σ H Q I ?_⟩
  obtain ⟨A0, F, env, w, q⟩ := h
  refine tAt_bind (J := jB) w q fun v H1 F1 env1 d t w1 j q1 => ?_
  have j : d = v := j
  subst j
  cases d with
  | true => exact ⟨A0, F1, env1, w1, q1⟩
  | false => exact tAt_ret q1 false H1 F1 Tr.refl w1 rfl
theorem dt_or {rest : List Expr} {ma mb : M Bool} (ha : PT X a (tTst (cf X B) ma)) (hb : PW X (.BoolOp .Or (b :: rest) pos) (tTst (cf X B) mb)) : PW X (.BoolOp .Or (a :: b :: rest) pos) (tTst (cf X B) (orT ma mb)) := by
  refine ⟨fun wh pins s σ H Q I h => (pw_or ha hb).run wh pins s σ H Q I ?_⟩
  obtain ⟨A0, F, env, w, q⟩ := h
  refine tAt_bind (J := jB) w q fun v H1 F1 env1 d t w1 j q1 => ?_
  have j : d = v := j
  subst j
  cases d with
  | true => exact tAt_ret q1 true H1 F1 Tr.refl w1 rfl
  | false => exact ⟨A0, F1, env1, w1, q1⟩
theorem dt_not {ma : M Bool} (ha : PT X a (tTst (cf X B) ma)) : PT X (.UnaryOp .Not a pos) (tTst (cf X B) (notT ma)) := by
  refine (pt_not ha).mono fun σ H Q ⟨A0, F, env, w, q⟩ => tAt_bind (J := jB) w q fun v H1 F1 env1 d t w1 j q1 => ?_
  have j : d = v := j
  subst j
  exact tAt_ret q1 _ H1 F1 Tr.refl w1 rfl
theorem tru_of {Av : As} {H : Hp} {v : V} {d : D} {k : Bool} (p : Op X.K Av H v d) (e : truth d = some k) : TruV X.K v H k := by
  cases d <;> simp only [truth] at e <;> first | cases e; done | skip
  · cases e; rw [p.non]; rfl
  · cases e; rw [p.bl]; rfl
  · cases e; rw [p.int]; rfl
  · split at e
    · cases e
      rename_i s hz
      rw [p.str]
      rw [lim_eq] at hz
      refine ⟨by rw [str_len]; exact hz, ?_⟩
      rw [str_len]
      cases s with
      | nil => rfl
      | cons x s => simp; omega
    · cases e
  · cases e
    obtain ⟨a, vs, rfl, h, hs, _⟩ := p.tuple
    exact .inr (.inl ⟨vs, h, by have := hs.length; cases vs <;> cases ‹List D› <;> simp at this ⊢⟩)
  · cases e
    obtain ⟨a, vs, rfl, h, hs⟩ := p.list
    exact .inl ⟨vs, h, by have := hs.length; cases vs <;> cases ‹List D› <;> simp at this ⊢⟩
theorem test_read {m : M Opd} {γ δ : Type} {kd : Kd (cf X B) γ δ} {g : Bool → M γ} {Q : δ → Hp → Prop} {Q' : Bool → Hp → Prop} (hg : ∀ A0 F env σ H k, Wf X.K B.T A0 B.P F H σ env → tAt (cf X B) kd (g k) A0 F env σ H Q → Q' k H) :
    ∀ σ H, tG (cf X B) kd (M.bind (testV m) g) σ H Q → tP (cf X B) m σ H fun x H' => ∃ k, TruV X.K x H' k ∧ Q' k H' := by
  rintro σ H ⟨A0, F, env, w, q⟩
  unfold testV at q
  simp only [bind_assoc] at q
  refine tAt_bind w q fun x H1 F1 env1 o1 t1 w1 j1 q1 => ?_
  obtain ⟨d, p, q2⟩ := tAt_get w1 j1 q1
  obtain ⟨r, e, ps⟩ := q2
  rcases bind_cases e with ⟨c, d', env', h, e1⟩ | ⟨k, env2, hk, e1⟩
  · unfold M.opt at h
    cases ht : truth d with
    | none => rw [ht] at h; cases h
    | some k => rw [ht] at h; cases h
  · unfold M.opt at hk
    cases ht : truth d with
    | none => rw [ht] at hk; cases hk
    | some k2 =>
      rw [ht] at hk
      cases hk
      exact ⟨_, tru_of p ht, hg A0 F1 _ σ H1 _ w1 ⟨r, e1, ps⟩⟩
theorem de_not {m : M Opd} (ha : PE X a (tP (cf X B) m)) : PE X (.UnaryOp .Not a pos) (tO (cf X B) (notV (testV m))) :=
  (pe_notT ha).mono fun σ H Q q => test_read (Q' := fun k H' => Q (.bl (!k)) H') (fun A0 F env σ H k w q => own_of_pu (tAt_ret q) w (.bl _)) σ H q
theorem bind_ret {α : Type} (m : M α) : M.bind m M.ret = m := by
  funext env
  unfold M.bind M.ret
  cases m env with
  | none => rfl
  | some q => cases q <;> rfl
/-- any other expression as a test -/
theorem dt_val {m : M Opd} (ha : PE X a (tP (cf X B) m)) (he : ∀ whole, isTrue a X.env whole = (do let v ← whole; standAt a.pos; holding [v] (truthy v))) : PT X a (tTst (cf X B) (testV m)) :=
  (pt_truth ha he).mono fun σ H Q q => test_read (Q' := Q) (g := M.ret) (kd := .of (cf X B) jB) (Q := Q) (fun A0 F env σ H k w q => tAt_ret q k H F Tr.refl w rfl) σ H (by rw [bind_ret]; exact q)
theorem de_ite {mc : M Bool} {ma mb : M D} (hc : PT X c (tTst (cf X B) mc)) (ha : PE X a (tO (cf X B) ma)) (hb : PE X b (tO (cf X B) mb)) : PE X (.IfExp c a b pos) (tO (cf X B) (iteF mc ma mb)) := by
  refine (pe_ifExp hc ha hb).mono fun σ H Q ⟨A0, F, env, w, q⟩ => tAt_bind (J := jB) w q fun v H1 F1 env1 d t w1 j q1 => ?_
  have j : d = v := j
  subst j
  cases d with
  | true => exact ⟨A0, F1, env1, w1, q1⟩
  | false => exact ⟨A0, F1, env1, w1, q1⟩
end
end Dz

set_option Elab.async false
set_option linter.all false
set_option maxRecDepth 100000
set_option maxHeartbeats 2000000
/-! Dz, part 6: displays, subscripts, built-ins. -/
namespace Dz
open PySem PySem.Spec PyProof.Rows L2
section
variable {X : Cx} {B : Bs} {Γ : Sig} {pos : Pos} {e a b c : Expr} {es : List Expr}

/-! ### several in a row -/
theorem da_nil : PA X [] (tArgs (cf X B) (M.ret [])) := pa_nil.mono fun σ H Q ⟨A0, F, env, w, q⟩ => tAt_ret q [] H F Tr.refl w .nil
theorem da_cons {m : M D} {ms : M (List D)} (ha : PE X e (tO (cf X B) m)) (hr : PA X es (tArgs (cf X B) ms)) (hs : starEach (e :: es) X.env = (false, eval e X.env) :: starEach es X.env) :
    PA X (e :: es) (tArgs (cf X B) (M.bind m fun d => M.bind ms fun ds => M.ret (d.fz :: ds))) := by
  refine (pa_cons ha hr hs).mono fun σ H Q ⟨A0, F, env, w, q⟩ => tO_fz w q fun v H1 F1 env1 d t w1 pu q1 => tAt_bind w1 q1 fun vs H2 F2 env2 ds t2 w2 j2 q2 => ?_
  exact tAt_ret q2 _ H2 F2 Tr.refl w2 (.cons (pu.stay t2.stays) j2)
theorem dp_nil : PA X [] (tOpds (cf X B) (M.ret [])) := pa_nil.mono fun σ H Q ⟨A0, F, env, w, q⟩ => tAt_ret q [] H F Tr.refl w .nil
theorem dp_cons {m : M Opd} {ms : M (List Opd)} (ha : PE X e (tP (cf X B) m)) (hr : PA X es (tOpds (cf X B) ms)) (hs : starEach (e :: es) X.env = (false, eval e X.env) :: starEach es X.env) :
    PA X (e :: es) (tOpds (cf X B) (M.bind m fun d => M.bind ms fun ds => M.ret (d :: ds))) := by
  refine (pa_cons ha hr hs).mono fun σ H Q ⟨A0, F, env, w, q⟩ => tAt_bind w q fun v H1 F1 env1 d t w1 j q1 => tAt_bind w1 q1 fun vs H2 F2 env2 ds t2 w2 j2 q2 => ?_
  exact tAt_ret q2 _ H2 F2 Tr.refl w2 (.cons (jOpd.stay t2.stays j) j2)
theorem de_tup {k : Nat} {ms : M (List D)} (h : PA X es (tArgs (cf X B) ms)) : PE X (.Tuple es k pos) (tO (cf X B) (tupF ms)) := by
  refine (pe_tup h).mono fun σ H Q ⟨A0, F, env, w, q⟩ => tAt_bind w q fun vs H1 F1 env1 ds t w1 j q1 => ?_
  have j : Pus X.K (cup A0 (ow F1)) H1 vs ds := j
  split at q1
  · rename_i hz
    rw [lim_eq] at hz
    exact ⟨by rw [j.length]; exact hz, fun p hp => own_tup (tAt_ret q1) w1 j hp⟩
  · exact (tAt_fail q1).elim
theorem de_lst {ms : M (List D)} (h : PA X es (tArgs (cf X B) ms)) : PE X (.List es pos) (tO (cf X B) (lstF ms)) := by
  refine (pe_lst h).mono fun σ H Q ⟨A0, F, env, w, q⟩ => tAt_bind w q fun vs H1 F1 env1 ds t w1 j q1 => ?_
  have j : Pus X.K (cup A0 (ow F1)) H1 vs ds := j
  split at q1
  · rename_i hz
    rw [lim_eq] at hz
    exact ⟨by rw [j.length]; exact hz, fun p hp => own_new (tAt_ret q1) w1 j hp⟩
  · exact (tAt_fail q1).elim

/-! ### subscripts -/
theorem atI_pus {Av : As} {H : Hp} {vs : List V} {ds : List D} {i : Int} {d : D} (h : Pus X.K Av H vs ds) (e : atI ds i = some d) : ∃ v, atI vs i = some v ∧ Pu X.K Av H v d := by
  unfold atI at e ⊢
  rw [h.length]
  cases hi : ixN ds.length i with
  | none => rw [hi] at e; cases e
  | some j =>
    rw [hi] at e
    exact h.get e
theorem de_idx {ma mb : M Opd} (hs : PlainIx b) (ha : PE X a (tP (cf X B) ma)) (hb : PE X b (tP (cf X B) mb)) : PE X (.Subscript a b pos) (tO (cf X B) (two (fun x y => M.opt (idxD x y)) ma mb)) := by
  refine (pe_ix ix_seq ha hb hs).mono (two_op fun A0 F env σ H x y d1 d2 Q w p1 p2 q => ?_)
  obtain ⟨d, e, q2⟩ := tAt_opt q
  cases d1 <;> cases d2 <;> simp only [idxD] at e <;> first | cases e; done | skip
  · split at e
    · rename_i s i hz
      rw [p1.str, p2.int]
      cases hc : atI s i with
      | none => rw [hc] at e; cases e
      | some c =>
        rw [hc] at e
        cases e
        rw [lim_eq] at hz
        refine .inr (.inr ⟨_, i, c, rfl, rfl, by rw [str_len]; exact hz, by simpa using hc, ?_⟩)
        exact own_of_pu q2 w (.str [c])
    · cases e
  · obtain ⟨p, vs, rfl, h, hs, _⟩ := p1.tuple
    rw [p2.int]
    obtain ⟨v, h1, h2⟩ := atI_pus hs e
    exact .inr (.inl ⟨p, vs, _, v, rfl, rfl, h, h1, own_of_pu q2 w h2⟩)
  · obtain ⟨p, vs, rfl, h, hs⟩ := p1.list
    rw [p2.int]
    obtain ⟨v, h1, h2⟩ := atI_pus hs e
    exact .inl ⟨p, vs, _, v, rfl, rfl, h, h1, own_of_pu q2 w h2⟩
def PDo (X : Cx) (B : Bs) (o : Option Expr) (m : M (Option Int)) : Prop := PO X o (tG (cf X B) (.of (cf X B) jPart) m)
theorem _root_.L2.PO.mono {o : Option Expr} {t t' : TO} (h : PO X o t) (k : ∀ σ H Q, t' σ H Q → t σ H Q) : PO X o t' := ⟨fun pins s σ H Q I q => h.run pins s σ H Q I (k σ H Q q)⟩
theorem do_none : PDo X B none (M.ret none) := po_none.mono fun σ H Q ⟨A0, F, env, w, q⟩ => tAt_ret q none H F Tr.refl w rfl
theorem do_some {m : M D} (h : PE X e (tO (cf X B) m)) : PDo X B (some e) (M.bind m fun d => M.opt (part d)) := by
  refine (po_some h).mono fun σ H Q ⟨A0, F, env, w, q⟩ => tO_fz w q fun v H1 F1 env1 d t w1 pu q1 => ?_
  obtain ⟨o, e, q2⟩ := tAt_opt q1
  cases d <;> simp only [part] at e <;> first | cases e; done | skip
  cases e
  cases pu
  exact ⟨_, rfl, q2 _ H1 F1 Tr.refl w1 rfl⟩
theorem cut_pus {Av : As} {H : Hp} {vs : List V} {ds : List D} (h : Pus X.K Av H vs ds) (lo hi : Option Int) : Pus X.K Av H (cutV vs lo hi) (cut ds lo hi) := by
  unfold cutV cut
  rw [h.length]
  exact (h.drop _).take _
theorem cutS_arr (s : List Nat) (lo hi : Option Int) : cutS ⟨s.toArray⟩ lo hi = ⟨(cut s lo hi).toArray⟩ := by
  unfold cutS cut
  simp [Str.length]
theorem de_slc {lo hi : Option Expr} {p2 : Pos} {ma : M Opd} {ml mh : M (Option Int)} (ha : PE X a (tP (cf X B) ma)) (hl : PDo X B lo ml) (hh : PDo X B hi mh) : PE X (.Subscript a (.Slice lo hi none p2) pos) (tO (cf X B) (slcF ma ml mh)) := by
  refine (pe_slice ((sl_list.or sl_tupA).or sl_str) ha hl hh).mono fun σ H Q ⟨A0, F, env, w, q⟩ => tAt_bind w q fun x H1 F1 env1 o1 t1 w1 j1 q1 =>
    tAt_bind (J := jPart) w1 q1 fun l H2 F2 env2 l' t2 w2 j2 q2 => tAt_bind (J := jPart) w2 q2 fun u H3 F3 env3 u' t3 w3 j3 q3 => ?_
  obtain rfl : l' = l := j2
  obtain rfl : u' = u := j3
  obtain ⟨d, p, q4⟩ := tAt_get w3 (jOpd.stay t3.stays (jOpd.stay t2.stays j1)) q3
  obtain ⟨r, e, q5⟩ := tAt_opt q4
  cases d <;> simp only [slcD] at e <;> first | cases e; done | skip
  · split at e
    · cases e
      rename_i hz
      rw [lim_eq] at hz
      rw [p.str]
      refine .inr ⟨_, rfl, by rw [str_len]; exact hz, ?_⟩
      rw [cutS_arr]
      exact own_of_pu q5 w3 (.str _)
    · cases e
  · cases e
    obtain ⟨t, vs, rfl, h, hs, pu⟩ := p.tuple
    refine .inl (.inr ⟨t, vs, rfl, h, fun hw => ?_, fun _ p hp => own_tup q5 w3 (cut_pus hs _ _) hp⟩)
    have ew : cut (‹List D›) l' u' = ‹List D› := by
      unfold cut
      rw [← hs.length, hw.1, hw.2, hs.length]
      simp
    rw [ew] at q5
    exact own_of_pu q5 w3 pu
  · cases e
    obtain ⟨t, vs, rfl, h, hs⟩ := p.list
    exact .inl (.inl ⟨t, vs, rfl, h, fun p hp => own_new q5 w3 (cut_pus hs _ _) hp⟩)

/-! ### built-ins -/
theorem bi_read {f : Bi} {r : List V → Hp → VK → Prop} {ms : M (List Opd)} (hr : ∀ A0 F env σ H vs ds d Q, Wf X.K B.T A0 B.P F H σ env → All2 (fun d v => Op X.K (cup A0 (ow F)) H v d) ds vs → biD f ds = some d → (Kd.own (cf X B)).post A0 F H σ Q d env → r vs H Q) :
    ∀ σ H Q, tO (cf X B) (biF f ms) σ H Q → tCB r (tOpds (cf X B) ms) σ H Q := by
  rintro σ H Q ⟨A0, F, env, w, q⟩
  refine tAt_bind w q fun vs H1 F1 env1 os t w1 j q1 => ?_
  obtain ⟨ds, h, q2⟩ := tAt_gets w1 j q1
  obtain ⟨d, e, q3⟩ := tAt_opt q2
  exact hr A0 F1 env1 σ H1 vs ds d Q w1 h e q3
theorem bi_len {A0 : As} {F : Fo} {env : Env} {σ : L2.St} {H : Hp} {vs : List V} {ds : List D} {d : D} {Q : VK} (w : Wf X.K B.T A0 B.P F H σ env) (h : All2 (fun d v => Op X.K (cup A0 (ow F)) H v d) ds vs) (e : biD .len ds = some d) (q : (Kd.own (cf X B)).post A0 F H σ Q d env) :
    ∃ x n, vs = [x] ∧ LenV X.K x H n ∧ Q (.int n) H := by
  unfold biD at e
  split at e <;> first | cases e; done | contradiction | skip
  · cases h with
    | cons p hs =>
      cases hs
      split at e
      · cases e
        rename_i hz
        rw [lim_eq] at hz
        rw [p.str]
        refine ⟨_, _, rfl, ⟨by rw [str_len]; exact hz, (str_len _).symm⟩, own_of_pu q w (.int _)⟩
      · cases e
  · cases h with
    | cons p hs =>
      cases hs
      cases e
      obtain ⟨t, ws, rfl, g, gs⟩ := p.list
      exact ⟨_, _, rfl, .inl ⟨ws, g, gs.length.symm⟩, own_of_pu q w (.int _)⟩
  · cases h with
    | cons p hs =>
      cases hs
      cases e
      obtain ⟨t, ws, rfl, g, gs, _⟩ := p.tuple
      exact ⟨_, _, rfl, .inr ⟨ws, g, gs.length.symm⟩, own_of_pu q w (.int _)⟩
theorem cr_repr (hg : X.A.guards = some []) (hu : X.A.units + 70 < cLine) : CallR X (.builtin "repr") (fun xs H Q => ∃ v d, xs = [v] ∧ Dp X.K H v d ∧ d.showable = true ∧ d.hasDict = false ∧ d.depth ≤ 64 ∧ d.shown.length ≤ sizeLine ∧ Q (.str d.shown) H) := by
  intro pins s σ H xs us Q I r h
  obtain ⟨v, d, rfl, hd, hs, hnd, hdp, hsz, q⟩ := h
  obtain ⟨u, rfl, ru⟩ := vals1 r
  obtain ⟨as, rd⟩ := Dp.reads I d v u hd ru
  cases hd with
  | non =>
    cases ru
    exact PySem.P.repr_of_none ⟨.str _, H, I.tok _, ⟨_, rfl⟩, by simpa only [PyData.shown] using q⟩
  | bl b =>
    cases ru
    exact PySem.P.repr_of_bool ⟨.str _, H, I.tok _, ⟨_, rfl⟩, by simpa only [PyData.shown] using q⟩
  | int i =>
    obtain ⟨t, rfl⟩ := ru
    exact PySem.P.repr_of_int (by simpa [PyData.showable] using hs) ⟨.str _, H, I.tok _, ⟨_, rfl⟩, by simpa only [PyData.shown] using q⟩
  | str x =>
    obtain ⟨t, rfl⟩ := ru
    exact PySem.P.repr_of_str ⟨.str _, H, I.tok _, ⟨_, rfl⟩, by simpa only [PyData.shown] using q⟩ (by simpa only [PyData.shown] using hsz)
  | lst a1 a2 =>
    cases ru
    exact repr_of_reads' rd hs (PyData.noDict_hsm hnd) hg (by omega) (fun _ _ z => z) (fun h' t tk k => ⟨.str _, H, I.kept k, ⟨_, rfl⟩, q⟩) hsz
  | tup a1 a2 =>
    cases ru
    exact repr_of_reads' rd hs (PyData.noDict_hsm hnd) hg (by omega) (fun _ _ z => z) (fun h' t tk k => ⟨.str _, H, I.kept k, ⟨_, rfl⟩, q⟩) hsz
theorem ints_vs {Av : As} {H : Hp} : ∀ {ds : List D} {vs : List V} {ns : List Int}, Pus X.K Av H vs ds → intsOf ds = some ns → vs = ns.map V.int
  | [], _, _, .nil, e => by cases e; rfl
  | d :: ds, _, ns, .cons h hs, e => by
    cases d <;> simp only [intsOf] at e <;> first | cases e; done | skip
    cases hn : intsOf ds with
    | none => rw [hn] at e; cases e
    | some ms =>
      rw [hn] at e
      cases e
      cases h
      rw [ints_vs hs hn]
      rfl
theorem strs_vs {Av : As} {H : Hp} : ∀ {ds : List D} {vs : List V} {ns : List (List Nat)}, Pus X.K Av H vs ds → strsOf ds = some ns → vs = ns.map fun l => V.str ⟨l.toArray⟩
  | [], _, _, .nil, e => by cases e; rfl
  | d :: ds, _, ns, .cons h hs, e => by
    cases d <;> simp only [strsOf] at e <;> first | cases e; done | skip
    cases hn : strsOf ds with
    | none => rw [hn] at e; cases e
    | some ms =>
      rw [hn] at e
      cases e
      cases h
      rw [strs_vs hs hn]
      rfl
theorem foldMin : ∀ (l : List Int) (x : Int), (l.foldl (fun m y => if y < m then y else m) x ∈ x :: l) ∧ ∀ y ∈ x :: l, l.foldl (fun m y => if y < m then y else m) x ≤ y
  | [], x => by simp
  | y :: l, x => by
    obtain ⟨h1, h2⟩ := foldMin l (if y < x then y else x)
    rw [List.foldl_cons]
    constructor
    · rcases List.mem_cons.mp h1 with e | h
      · rw [e]; split <;> simp
      · simp [h]
    · intro z hz
      have a := h2 (if y < x then y else x) (by simp)
      have c := fun hz => h2 z (List.mem_cons_of_mem _ hz)
      generalize l.foldl (fun m y => if y < m then y else m) (if y < x then y else x) = k at a c
      rcases List.mem_cons.mp hz with rfl | hz
      · split at a <;> omega
      · rcases List.mem_cons.mp hz with rfl | hz
        · split at a <;> omega
        · exact c hz
theorem foldMax : ∀ (l : List Int) (x : Int), (l.foldl (fun m y => if m < y then y else m) x ∈ x :: l) ∧ ∀ y ∈ x :: l, y ≤ l.foldl (fun m y => if m < y then y else m) x
  | [], x => by simp
  | y :: l, x => by
    obtain ⟨h1, h2⟩ := foldMax l (if x < y then y else x)
    rw [List.foldl_cons]
    constructor
    · rcases List.mem_cons.mp h1 with e | h
      · rw [e]; split <;> simp
      · simp [h]
    · intro z hz
      have a := h2 (if x < y then y else x) (by simp)
      have c := fun hz => h2 z (List.mem_cons_of_mem _ hz)
      generalize l.foldl (fun m y => if m < y then y else m) (if x < y then y else x) = k at a c
      rcases List.mem_cons.mp hz with rfl | hz
      · split at a <;> omega
      · rcases List.mem_cons.mp hz with rfl | hz
        · split at a <;> omega
        · exact c hz
/-- what a built-in's name stands for -/
def biV : Bi → Str × Value
  | .len => ("len", .builtin "len")
  | .int => ("int", .type "int")
  | .abs => ("abs", .builtin "abs")
  | .min => ("min", .builtin "min")
  | .max => ("max", .builtin "max")
  | .tuple => ("tuple", .type "tuple")
  | .repr => ("repr", .builtin "repr")
theorem bi_ok (f : Bi) (hc : X.calm = true) (hg : X.A.guards = some []) (hu : X.A.units + 70 < cLine) : CallR X (biV f).2 (fun vs H Q => ∃ A0 F env σ ds d, Wf X.K B.T A0 B.P F H σ env ∧ All2 (fun d v => Op X.K (cup A0 (ow F)) H v d) ds vs ∧ biD f ds = some d ∧ (Kd.own (cf X B)).post A0 F H σ Q d env) := by
  intro pins s σ H xs us Q I r h
  obtain ⟨A0, F, env, σ', ds, d, w, h, e, q⟩ := h
  cases f
  · exact call_len pins s σ H xs us Q I r (bi_len w h e q)
  all_goals
    unfold biD at e
    split at e <;> first | contradiction | skip
    all_goals first | (cases e; done) | skip
  all_goals (cases h with | cons p h => ?_)
  · cases h
    cases e
    refine call_int1 pins s σ H _ us Q I r ?_
    rw [p.int]
    exact .inl ⟨_, rfl, own_of_pu q w (.int _)⟩
  · cases h
    cases e
    refine call_int1 pins s σ H _ us Q I r ?_
    rw [p.bl]
    exact .inr ⟨_, rfl, own_of_pu q w (.int _)⟩
  · cases h
    cases e
    refine call_abs pins s σ H _ us Q I r ?_
    rw [p.int]
    exact ⟨_, rfl, own_of_pu q w (.int _)⟩
  · cases h with
    | cons p2 h =>
      cases h
      cases e
      refine call_min2 hc pins s σ H _ us Q I r ?_
      rw [p.int, p2.int]
      exact ⟨_, _, rfl, own_of_pu q w (.int _)⟩
  · cases h
    obtain ⟨ns, hn, e⟩ := Option.bind_eq_some_iff.mp e
    cases ns with
    | nil => cases e
    | cons n ns =>
      cases e
      obtain ⟨t, vs, rfl, g, gs⟩ := p.list
      rw [ints_vs gs hn] at g
      refine cr_min hc pins s σ H _ us Q I r ⟨t, _, rfl, g, by simp, fun m hm hl => ?_⟩
      obtain ⟨h1, h2⟩ := foldMin ns n
      have em : m = ns.foldl (fun m y => if y < m then y else m) n := by
        have := hl _ h1
        have := h2 _ hm
        omega
      rw [em]
      exact own_of_pu q w (.int _)
  · cases h with
    | cons p2 h =>
      cases h
      cases e
      refine call_max2 hc pins s σ H _ us Q I r ?_
      rw [p.int, p2.int]
      exact ⟨_, _, rfl, own_of_pu q w (.int _)⟩
  · cases h
    obtain ⟨ns, hn, e⟩ := Option.bind_eq_some_iff.mp e
    cases ns with
    | nil => cases e
    | cons n ns =>
      cases e
      obtain ⟨t, vs, rfl, g, gs⟩ := p.list
      rw [ints_vs gs hn] at g
      refine cr_max hc pins s σ H _ us Q I r ⟨t, _, rfl, g, by simp, fun m hm hl => ?_⟩
      obtain ⟨h1, h2⟩ := foldMax ns n
      have em : m = ns.foldl (fun m y => if m < y then y else m) n := by
        have := hl _ h1
        have := h2 _ hm
        omega
      rw [em]
      exact own_of_pu q w (.int _)
  · cases h
    cases e
    obtain ⟨t, vs, rfl, g, gs⟩ := p.list
    exact call_tuple_of pins s σ H _ us Q I r ⟨t, vs, rfl, .inl ⟨g, fun l hl => own_tup q w gs hl⟩⟩
  · cases h
    cases e
    obtain ⟨t, vs, rfl, g, gs, pu⟩ := p.tuple
    exact call_tuple_of pins s σ H _ us Q I r ⟨t, vs, rfl, .inr ⟨g, own_of_pu q w pu⟩⟩
  · cases h
    obtain ⟨l, hn, e⟩ := Option.map_eq_some_iff.mp e
    subst e
    unfold showD at hn
    split at hn
    · cases hn
      rename_i hz
      simp only [Bool.and_eq_true, decide_eq_true_eq, Bool.not_eq_true'] at hz
      obtain ⟨⟨⟨z1, z2⟩, z3⟩, z4⟩ := hz
      rw [lim_eq] at z4
      refine cr_repr hg hu pins s σ H _ us Q I r ⟨_, _, rfl, p.dp, z1, z2, z3, z4, ?_⟩
      have := own_of_pu q w (.str _)
      rwa [arr_list] at this
    · cases hn
/-- no star among written arguments -/
def noStar : Expr → Bool
  | .Starred _ _ => false
  | _ => true
theorem star1 {e : Expr} {es : List Expr} {env : PySem.Env} (h : noStar e = true) : starEach (e :: es) env = (false, eval e env) :: starEach es env := by
  cases e <;> first | rfl | cases h
theorem star_all {es : List Expr} {env : PySem.Env} (h : es.all noStar = true) : (starEach es env).all (fun x => !x.1) = true := by
  induction es with
  | nil => rfl
  | cons e es ih =>
    simp only [List.all_cons, Bool.and_eq_true] at h
    rw [star1 h.1]
    simp [ih h.2]
theorem star_back {es : List Expr} {env : PySem.Env} (p : Pos) (h : es.all noStar = true) : (backTo p (starEach es env)).all (fun x => !x.1) = true := by
  have := star_all (env := env) h
  generalize starEach es env = l at this
  unfold backTo
  simpa [List.all_map] using this
theorem star_any {es : List Expr} {env : PySem.Env} (p : Pos) (h : es.all noStar = true) : (backTo p (starEach es env)).any (·.1) = false := by
  have := star_back (env := env) p h
  generalize backTo p (starEach es env) = l at this
  rw [List.any_eq_false]
  intro x hx
  have := List.all_eq_true.mp this x hx
  simpa using this
theorem de_bi {f : Bi} {x : Str} {p : Pos} {ms : M (List Opd)} (hc : X.calm = true) (hg : X.A.guards = some []) (hu : X.A.units + 70 < cLine) (hx : x = (biV f).1) (gl : Gl X x) (hm : X.mg x = none) (hst : (e :: es).all noStar = true)
    (ha : PA X (e :: es) (tOpds (cf X B) ms)) : PE X (.Call (.Name x p) (e :: es) [] pos) (tO (cf X B) (biF f ms)) := by
  subst hx
  have hr := bi_ok (X := X) (B := B) f hc hg hu
  have rd := bi_read (X := X) (B := B) (f := f) (ms := ms) (r := fun vs H Q => ∃ A0 F env σ ds d, Wf X.K B.T A0 B.P F H σ env ∧ All2 (fun d v => Op X.K (cup A0 (ow F)) H v d) ds vs ∧ biD f ds = some d ∧ (Kd.own (cf X B)).post A0 F H σ Q d env)
    fun A0 F env σ H vs ds d Q w h e q => ⟨A0, F, env, σ, ds, d, w, h, e, q⟩
  have s1 : starEach (e :: es) X.env = (false, eval e X.env) :: starEach es X.env := star1 (by simp at hst; exact hst.1)
  have s2 : (backTo pos (starEach es X.env)).any (·.1) = false := star_any pos (by simp at hst ⊢; exact hst.2)
  cases f
  · exact (pe_callB hr gl hm boot_len ha (by decide) (by decide) s1 s2).mono rd
  · exact (pe_callTy hr gl hm (by decide +kernel) ha (by decide) (by decide) s1 s2).mono rd
  · exact (pe_callB hr gl hm (by decide +kernel) ha (by decide) (by decide) s1 s2).mono rd
  · exact (pe_callB hr gl hm (by decide +kernel) ha (by decide) (by decide) s1 s2).mono rd
  · exact (pe_callB hr gl hm (by decide +kernel) ha (by decide) (by decide) s1 s2).mono rd
  · exact (pe_callTy hr gl hm (by decide +kernel) ha (by decide) (by decide) s1 s2).mono rd
  · exact (pe_callB hr gl hm (by decide +kernel) ha (by decide) (by decide) s1 s2).mono rd
end
end Dz

set_option Elab.async false
set_option linter.all false
set_option maxRecDepth 100000
set_option maxHeartbeats 2000000
/-! Dz, part 7: a def's promise by its meaning; a call. -/
namespace Dz
open PySem PySem.Spec PyProof.Rows L2
/-- as HandS's promise of a def, where no display is being shown -/
structure FnG (P : Program) (w : World) (K : PySem.W.Frag) (mg : Str → Option Value) (base : Heap) (k : Nat) (f : Addr) (fd : FuncData) (ps : List Str) (sp : Sp) : Prop where
  len : ∀ vs H Q E, sp vs H Q E → vs.length = ps.length
  run : ∀ (A : Around) (outer : List PySem.Env) (s : Shared) (H : Hp) (args : Args) (us : List Value) (vs : List V) (Q : VK) (E : XK), Room k A → A.guards = some [] → Env0 P w K mg base A outer s H → BindsTo s fd args (ps.zip us) → Vals vs us → sp vs H Q E →
    codeAny (model P w) A (.call (.ref f) args) (CR (L2.CX P w) outer P w H s Q E) s
theorem FnG.mono {P : Program} {w : World} {K : PySem.W.Frag} {mg : Str → Option Value} {base : Heap} {j k : Nat} {f : Addr} {fd : FuncData} {ps : List Str} {sp : Sp} (F : FnG P w K mg base j f fd ps sp) (h : j ≤ k) : FnG P w K mg base k f fd ps sp :=
  ⟨F.len, fun A outer s H args us vs Q E hr => F.run A outer s H args us vs Q E (hr.mono h)⟩
section
variable {X : Cx} {k : Nat} {f : Addr} {fd : FuncData} {ps : List Str} {sp : Sp} {E : L2.St → XK} {x : Str} {p pos : Pos} {e : Expr} {es : List Expr} {t : TA}
theorem run_fnG {pins : List (Addr × Obj)} {σ : L2.St} {H : Hp} {s : Shared} {Q : VK} {us : List Value} {vs : List V} (F : FnG X.prog X.w X.K X.mg X.base k f fd ps sp) (hr : Room k X.A) (hg : X.A.guards = some []) (hb : Binds X.K fd ps [])
    (hx : PassesAt (L2.CX X.prog X.w) X σ (E σ)) (I : Inv X pins σ H s) (r : Vals vs us) (h : sp vs H Q (E σ)) : wpAny (model X.prog X.w) X.A (call (.ref f) us) (EP X pins σ Q) X.xe s := by
  have hl : us.length = ps.length := by rw [← r.length]; exact F.len _ _ _ _ h
  have b := hb s us I.kIn (by rw [List.append_nil]; exact hl)
  rw [List.append_nil] at b
  have c := F.run X.A X.stack s H ⟨us, []⟩ us vs Q (E σ) hr hg I.env0 b r h
  refine wpAny_call (codeAny_mono c fun res s' hq => ?_)
  match res, hq with
  | .error e, hq => exact hx pins H s e s' I hq
  | .ok (.ret u), hq => exact I.after hq
  | .ok .next, hq => exact hq.elim
  | .ok .brk, hq => exact hq.elim
  | .ok .cont, hq => exact hq.elim
theorem pe_callG (F : FnG X.prog X.w X.K X.mg X.base k f fd ps sp) (hr : Room k X.A) (hgd : X.A.guards = some []) (hg : Gl X x) (hm : X.mg x = some (.ref f)) (hk : PySem.W.keepIn X.K (.ref f) = true) (hb : Binds X.K fd ps []) (hx : ∀ σ, PassesAt (L2.CX X.prog X.w) X σ (E σ))
    (ha : PA X (e :: es) t) (hst : (e :: es).all noStar = true) (hdb : (x == ("__debug__" : Str)) = false) : PE X (.Call (.Name x p) (e :: es) [] pos) (fun σ H Q => t σ H fun vs H1 => sp vs H1 Q (E σ)) := by
  refine ⟨fun pins s σ H Q I h => ?_⟩
  refine wpAny_Call_Name_kw (ld_glob I hg hm ?_ hdb)
  simp only [List.all_cons, Bool.and_eq_true] at hst
  refine PySem.W.callWith_K (h₀ := X.base) I.ok.mod.kin hk (thn (ha.run pos pins s σ H _ I h) fun us s1 ⟨vs, H1, I1, r, q⟩ => ⟨I1.kIn, ?_⟩) (star1 hst.1) (star_any pos hst.2)
  exact run_fnG F hr hgd hb (hx σ) I1 r q
theorem pe_callG0 (F : FnG X.prog X.w X.K X.mg X.base k f fd ps sp) (hr : Room k X.A) (hgd : X.A.guards = some []) (hg : Gl X x) (hm : X.mg x = some (.ref f)) (hk : PySem.W.keepIn X.K (.ref f) = true) (hb : Binds X.K fd ps []) (hx : ∀ σ, PassesAt (L2.CX X.prog X.w) X σ (E σ))
    (hdb : (x == ("__debug__" : Str)) = false) : PE X (.Call (.Name x p) [] [] pos) (fun σ H Q => sp [] H Q (E σ)) := by
  refine ⟨fun pins s σ H Q I h => ?_⟩
  refine wpAny_Call_Name_kw (ld_glob I hg hm ?_ hdb)
  exact PySem.W.callWith_K0 I.kIn hk (run_fnG F hr hgd hb (hx σ) I .nil h)
end

/-! ### arguments -/
theorem All2.get {α β : Type} {R : α → β → Prop} : ∀ {as : List α} {bs : List β}, All2 R as bs → ∀ (k : Nat) (a : α), as[k]? = some a → ∃ b, bs[k]? = some b ∧ R a b
  | _, _, .nil, k, a, e => by simp at e
  | _, _, .cons r _, 0, a, e => by simp at e; subst e; exact ⟨_, rfl, r⟩
  | _, _, .cons _ rs, k + 1, a, e => by
    obtain ⟨b, h1, h2⟩ := All2.get rs k a (by simpa using e)
    exact ⟨b, by simpa using h1, h2⟩
theorem All2.length {α β : Type} {R : α → β → Prop} : ∀ {as : List α} {bs : List β}, All2 R as bs → as.length = bs.length
  | _, _, .nil => rfl
  | _, _, .cons _ rs => by simp [All2.length rs]
theorem hand_at : ∀ {os : List Opd} {env : Env} {ds : List D}, hand os env = some ds → ds.length = os.length ∧ ∀ (k : Nat) d, ds[k]? = some d → os[k]? = some (.val d) ∨ ∃ i, os[k]? = some (.pl i) ∧ env[i]? = some (some d) ∧ d.isOwn = true
  | [], env, ds, e => by cases e; exact ⟨rfl, fun k d h => by simp at h⟩
  | .val x :: r, env, ds, e => by
    obtain ⟨es, h, rfl⟩ := Option.map_eq_some_iff.mp (show (hand r env).map (x :: ·) = some ds from e)
    obtain ⟨l, g⟩ := hand_at h
    refine ⟨by simp [l], fun k d hk => ?_⟩
    cases k with
    | zero => simp at hk; subst hk; exact .inl rfl
    | succ k => simpa using g k d (by simpa using hk)
  | .pl i :: r, env, ds, e => by
    have e : (match env[i]? with
      | some (some (.own d)) => (hand r env).map (.own d :: ·)
      | _ => none) = some ds := e
    split at e
    · rename_i d hd
      obtain ⟨es, h, rfl⟩ := Option.map_eq_some_iff.mp e
      obtain ⟨l, g⟩ := hand_at h
      refine ⟨by simp [l], fun k d' hk => ?_⟩
      cases k with
      | zero => simp at hk; subst hk; exact .inr ⟨i, rfl, hd, rfl⟩
      | succ k => simpa using g k d' (by simpa using hk)
    · cases e
theorem places_mem : ∀ {os : List Opd} {i : Nat}, i ∈ places os ↔ ∃ k : Nat, os[k]? = some (.pl i)
  | [], i => by simp [places]
  | .val d :: r, i => by
    unfold places
    rw [places_mem]
    constructor
    · rintro ⟨k, h⟩; exact ⟨k + 1, by simpa using h⟩
    · rintro ⟨k, h⟩
      cases k with
      | zero => simp at h
      | succ k => exact ⟨k, by simpa using h⟩
  | .pl j :: r, i => by
    unfold places
    rw [List.mem_cons, places_mem]
    constructor
    · rintro (rfl | ⟨k, h⟩)
      · exact ⟨0, rfl⟩
      · exact ⟨k + 1, by simpa using h⟩
    · rintro ⟨k, h⟩
      cases k with
      | zero => simp at h; exact .inl h.symm
      | succ k => exact .inr ⟨k, by simpa using h⟩
theorem places_inj : ∀ {os : List Opd} {i k l : Nat}, (places os).Nodup → os[k]? = some (.pl i) → os[l]? = some (.pl i) → k = l
  | [], i, k, l, _, h, _ => by simp at h
  | .val d :: r, i, k, l, n, h, g => by
    cases k with
    | zero => simp at h
    | succ k =>
      cases l with
      | zero => simp at g
      | succ l => exact congrArg (· + 1) (places_inj (os := r) (i := i) (k := k) (l := l) (by simpa [places] using n) (by simpa using h) (by simpa using g))
  | .pl j :: r, i, k, l, n, h, g => by
    have n : (j :: places r).Nodup := n
    obtain ⟨n1, n2⟩ := List.nodup_cons.mp n
    cases k with
    | zero =>
      simp at h
      subst h
      cases l with
      | zero => rfl
      | succ l => exact absurd (places_mem.mpr ⟨l, by simpa using g⟩) n1
    | succ k =>
      cases l with
      | zero =>
        simp at g
        subst g
        exact absurd (places_mem.mpr ⟨k, by simpa using h⟩) n1
      | succ l => exact congrArg (· + 1) (places_inj (os := r) (i := i) (k := k) (l := l) n2 (by simpa using h) (by simpa using g))
theorem back_at : ∀ {os : List Opd} {outs : List D} {env env' : Env}, back os outs env = some env' → (places os).Nodup → env'.length = env.length ∧ outs.length = os.length ∧ (∀ i, i ∉ places os → env'[i]? = env[i]?) ∧ ∀ (k i : Nat) (d : D), os[k]? = some (.pl i) → outs[k]? = some d → env'[i]? = some (some d)
  | [], [], env, env', e, _ => by cases e; exact ⟨rfl, rfl, fun _ _ => rfl, fun k i d h => by simp at h⟩
  | [], _ :: _, _, _, e, _ => by cases e
  | .val _ :: r, [], _, _, e, _ => by cases e
  | .pl _ :: r, [], _, _, e, _ => by cases e
  | .val x :: r, y :: ds, env, env', e, n => by
    obtain ⟨h1, h2, h3, h4⟩ := back_at (os := r) (outs := ds) (show back r ds env = some env' from e) n
    refine ⟨h1, by simp [h2], h3, fun k i d a b => ?_⟩
    cases k with
    | zero => simp at a
    | succ k => exact h4 k i d (by simpa using a) (by simpa using b)
  | .pl j :: r, y :: ds, env, env', e, n => by
    have n : (j :: places r).Nodup := n
    obtain ⟨n1, n2⟩ := List.nodup_cons.mp n
    have e : (if j < env.length then back r ds (env.set j (some y)) else none) = some env' := e
    split at e
    · rename_i hj
      obtain ⟨h1, h2, h3, h4⟩ := back_at e n2
      refine ⟨by simpa using h1, by simp [h2], fun i hi => ?_, fun k i d a b => ?_⟩
      · have hi : i ∉ j :: places r := hi
        simp only [List.mem_cons, not_or] at hi
        rw [h3 i hi.2, List.getElem?_set_ne (Ne.symm hi.1)]
      · cases k with
        | zero =>
          simp at a b
          subst a b
          rw [h3 j n1, List.getElem?_set_self hj]
        | succ k => exact h4 k i d (by simpa using a) (by simpa using b)
    · cases e

/-! ### the promise -/
/-- what a def promises that means F: the arguments stand for data, changed ones in what is lent to it -/
def spF (C : Cf) (F : Fn) : Sp := fun vs H Q E => ∃ A0 P F0 ds, Wf C.K C.T A0 P F0 H (vs.map some) (ds.map some) ∧ ds.length = F.muts.length ∧ (∀ k, F.muts.getD k false = (P k).isSome) ∧ ∃ ans, F.run ds = some ans ∧
  match ans with
  | .ret d outs => ∀ v H' F1 S, Tr (ow F0) H (cup (inL S) (ow F1)) H' → Wf C.K C.T (cup A0 (inL S)) P F1 H' (vs.map some) (outs.map some) → Ow C.K (cup (cup A0 (inL S)) (ow F1)) H' v d S → (∀ b ∈ S, ¬ A0 b) → (∀ k, P k = none → F1 k = []) → Q v H'
  | .exn c d outs => ∀ H' F1 cls dd, Tr (ow F0) H (ow F1) H' → Wf C.K C.T A0 P F1 H' (vs.map some) (outs.map some) → Exn C (cup A0 (ow F1)) H' c d cls dd → (∀ k, P k = none → F1 k = []) → E cls dd H'
section
variable {C : Cf} {A0 : As} {F : Fo} {env : Env} {σ : L2.St} {H : Hp} {os : List Opd} {vs : List V} {ds : List D}
/-- what is lent -/
def argF (F : Fo) (os : List Opd) : Fo := fun k => match os[k]? with
  | some (.pl i) => F i
  | _ => []
def argP (os : List Opd) (vs : List V) : Nat → Option Addr := fun k => match os[k]?, vs[k]? with
  | some (.pl _), some (.ref p) => some p
  | _, _ => none
/-- what is not lent -/
def argA (A0 : As) (F : Fo) (os : List Opd) : As := fun b => A0 b ∨ ∃ j, j ∉ places os ∧ b ∈ F j
theorem argF_pl {i k : Nat} (h : os[k]? = some (.pl i)) : argF F os k = F i := by unfold argF; rw [h]
theorem argF_mem {k : Nat} {b : Addr} (h : b ∈ argF F os k) : ∃ i, os[k]? = some (.pl i) ∧ b ∈ F i := by
  unfold argF at h
  split at h
  · rename_i i hi; exact ⟨i, hi, h⟩
  · cases h
theorem arg_av (b : Addr) : cup (argA A0 F os) (ow (argF F os)) b ↔ cup A0 (ow F) b := by
  constructor
  · rintro ((h | ⟨j, _, h⟩) | ⟨k, h⟩)
    · exact .inl h
    · exact .inr ⟨j, h⟩
    · obtain ⟨i, _, h⟩ := argF_mem h
      exact .inr ⟨i, h⟩
  · rintro (h | ⟨j, h⟩)
    · exact .inl (.inl h)
    · by_cases hj : j ∈ places os
      · obtain ⟨k, hk⟩ := places_mem.mp hj
        exact .inr ⟨k, by rw [argF_pl hk]; exact h⟩
      · exact .inl (.inr ⟨j, hj, h⟩)
theorem Ow.own_ref {K : PySem.W.Frag} {Av : As} {v : V} {d : D} {S : List Addr} (h : Ow K Av H v d S) (o : d.isOwn = true) : ∃ p, v = .ref p ∧ S = [p] := by
  cases h with
  | pu h => rw [h.nown] at o; cases o
  | lst h hs => exact ⟨_, rfl, rfl⟩
theorem map_get {α : Type} {l : List α} {k : Nat} {a : α} (h : (l.map some)[k]? = some (some a)) : l[k]? = some a := by
  rw [List.getElem?_map] at h
  cases e : l[k]? with
  | none => rw [e] at h; cases h
  | some b => rw [e] at h; cases h; rfl
theorem get_map {α : Type} {l : List α} {k : Nat} {a : α} (h : l[k]? = some a) : (l.map some)[k]? = some (some a) := by rw [List.getElem?_map, h]; rfl
/-- the arguments' state -/
theorem arg_wf (w : Wf C.K C.T A0 C.P F H σ env) (j : jOpds C.K os σ (cup A0 (ow F)) H vs) (hd : hand os env = some ds) (hn : (places os).Nodup) : Wf C.K C.T (argA A0 F os) (argP os vs) (argF F os) H (vs.map some) (ds.map some) := by
  obtain ⟨hl, hat⟩ := hand_at hd
  have hlv : os.length = vs.length := j.length
  have st : Stays (cup A0 (ow F)) H (cup (argA A0 F os) (ow (argF F os))) H := stays_less fun b z => (arg_av b).mp z
  refine ⟨by simp [hl, hlv], fun k d e => ?_, fun k h => ?_, fun k l b h1 h2 => ?_, fun b ⟨k, h⟩ z => ?_, fun b z => ?_, w.tabs, fun k p h => ?_⟩
  · have e := map_get e
    have hk : k < os.length := by rw [← hl]; exact (List.getElem?_eq_some_iff.mp e).1
    rcases hat k d e with ho | ⟨i, ho, hi, own⟩
    · obtain ⟨v, hv, jv⟩ := j.get k _ ho
      have : argF F os k = [] := by unfold argF; rw [ho]
      rw [this]
      exact ⟨v, get_map hv, .pu (Pu.stay st jv)⟩
    · obtain ⟨v, hv, jv⟩ := j.get k _ ho
      obtain ⟨u, h1, h2⟩ := w.slot i d hi
      have jv : σ[i]? = some (some v) := jv
      rw [jv] at h1
      cases h1
      rw [argF_pl ho]
      exact ⟨v, get_map hv, h2.stay st fun _ _ _ q => q⟩
  · unfold argF
    split
    · rename_i i hi
      have hk : k < ds.length := by rw [hl]; exact (List.getElem?_eq_some_iff.mp hi).1
      have hd' : ds[k]? = some ds[k] := by simp [hk]
      rcases hat k _ hd' with ho | ⟨i', ho, hi', own⟩
      · rw [ho] at hi; cases hi
      · rw [h _ (get_map hd')] at own; cases own
    · rfl
  · obtain ⟨i, a1, a2⟩ := argF_mem h1
    obtain ⟨i', b1, b2⟩ := argF_mem h2
    obtain rfl := w.disj i i' b a2 b2
    exact places_inj hn a1 b1
  · obtain ⟨i, a1, a2⟩ := argF_mem h
    rcases z with z | ⟨l, hl', z⟩
    · exact w.out b ⟨i, a2⟩ z
    · obtain rfl := w.disj i l b a2 z
      exact hl' (places_mem.mpr ⟨k, a1⟩)
  · rcases z with z | ⟨l, _, z⟩
    · exact w.dom b z
    · obtain ⟨xs, e⟩ := w.odom b ⟨l, z⟩
      rw [e]; simp
  · unfold argP at h
    split at h
    · rename_i h1 h2
      cases h
      exact get_map h2
    · cases h
/-- what is owned behind the call -/
noncomputable def bckF (F F1 : Fo) (os : List Opd) : Fo := fun i => open Classical in if h : i ∈ places os then F1 (Classical.choose (places_mem.mp h)) else F i
theorem bckF_pl {F1 : Fo} (hn : (places os).Nodup) {i k : Nat} (h : os[k]? = some (.pl i)) : bckF F F1 os i = F1 k := by
  unfold bckF
  have hm : i ∈ places os := places_mem.mpr ⟨k, h⟩
  rw [dif_pos hm, places_inj hn (Classical.choose_spec (places_mem.mp hm)) h]
theorem bckF_no {F1 : Fo} {i : Nat} (h : i ∉ places os) : bckF F F1 os i = F i := by
  unfold bckF
  rw [dif_neg h]
theorem back_av {S : List Addr} {F1 : Fo} (hn : (places os).Nodup) (h0 : ∀ k, (∀ i, os[k]? ≠ some (.pl i)) → F1 k = []) (b : Addr) : cup (cup (argA A0 F os) (inL S)) (ow F1) b ↔ cup (cup A0 (inL S)) (ow (bckF F F1 os)) b := by
  constructor
  · rintro (((h | ⟨j, hj, h⟩) | h) | ⟨k, h⟩)
    · exact .inl (.inl h)
    · exact .inr ⟨j, by rw [bckF_no hj]; exact h⟩
    · exact .inl (.inr h)
    · by_cases hk : ∀ i, os[k]? ≠ some (.pl i)
      · rw [h0 k hk] at h; cases h
      · obtain ⟨i, hi⟩ := Classical.not_forall.mp hk
        have hi := Classical.not_not.mp hi
        exact .inr ⟨i, by rw [bckF_pl hn hi]; exact h⟩
  · rintro ((h | h) | ⟨i, h⟩)
    · exact .inl (.inl (.inl h))
    · exact .inl (.inr h)
    · by_cases hi : i ∈ places os
      · obtain ⟨k, hk⟩ := places_mem.mp hi
        rw [bckF_pl hn hk] at h
        exact .inr ⟨k, h⟩
      · rw [bckF_no hi] at h
        exact .inl (.inl (.inr ⟨i, hi, h⟩))
/-- .. and behind the call -/
theorem back_wf {S : List Addr} {H' : Hp} {F1 : Fo} {outs : List D} {env' : Env} (w : Wf C.K C.T A0 C.P F H σ env) (j : jOpds C.K os σ (cup A0 (ow F)) H vs) (hd : hand os env = some ds) (hn : (places os).Nodup) (hb : back os outs env = some env')
    (t : Tr (ow (argF F os)) H (cup (inL S) (ow F1)) H') (w1 : Wf C.K C.T (cup (argA A0 F os) (inL S)) (argP os vs) F1 H' (vs.map some) (outs.map some)) (h0 : ∀ k, (∀ i, os[k]? ≠ some (.pl i)) → F1 k = []) :
    Tr (ow F) H (cup (inL S) (ow (bckF F F1 os))) H' ∧ Wf C.K C.T (cup A0 (inL S)) C.P (bckF F F1 os) H' σ env' := by
  obtain ⟨hl, hat⟩ := hand_at hd
  obtain ⟨b1, b2, b3, b4⟩ := back_at hb hn
  have lent : ∀ b, ow (argF F os) b → ow F b := fun b ⟨k, h⟩ => let ⟨i, _, h⟩ := argF_mem h; ⟨i, h⟩
  have fno : ∀ j b, j ∉ places os → b ∈ F j → ¬ ow (argF F os) b := fun j b hj hb ⟨k, h⟩ => by
    obtain ⟨i, a1, a2⟩ := argF_mem h
    obtain rfl := w.disj j i b hb a2
    exact hj (places_mem.mpr ⟨k, a1⟩)
  have fS : ∀ j b, j ∉ places os → b ∈ F j → b ∉ S := fun j b hj hb hs => by
    rcases t.grow b (.inl hs) with z | z
    · exact fno j b hj hb z
    · obtain ⟨xs, e⟩ := w.odom b ⟨j, hb⟩
      rw [z] at e; cases e
  have tt : Tr (ow F) H (cup (inL S) (ow (bckF F F1 os))) H' := by
    refine ⟨fun b o e n q => t.keep b o e (fun z => n (lent b z)) q, t.dom, fun b z => ?_⟩
    rcases z with z | ⟨i, z⟩
    · exact (t.grow b (.inl z)).imp (lent b) id
    · by_cases hi : i ∈ places os
      · obtain ⟨k, hk⟩ := places_mem.mp hi
        rw [bckF_pl hn hk] at z
        exact (t.grow b (.inr ⟨k, z⟩)).imp (lent b) id
      · rw [bckF_no hi] at z
        exact .inl ⟨i, z⟩
  have st : Stays (cup A0 (ow F)) H (cup (cup A0 (inL S)) (ow (bckF F F1 os))) H' := fun a o e n q => by
    refine ⟨tt.keep a o e (fun z => n (.inr z)) q, fun z => ?_⟩
    rcases z with (z | z) | z
    · exact n (.inl z)
    · rcases tt.grow a (.inl z) with y | y
      · exact n (.inr y)
      · rw [e] at y; cases y
    · rcases tt.grow a (.inr z) with y | y
      · exact n (.inr y)
      · rw [e] at y; cases y
  refine ⟨tt, by rw [b1]; exact w.len, fun i d e => ?_, fun i h => ?_, fun i l b h1 h2 => ?_, fun b ⟨i, h⟩ z => ?_, fun b z => ?_, w1.tabs, w.pins⟩
  · by_cases hi : i ∈ places os
    · obtain ⟨k, hk⟩ := places_mem.mp hi
      have hk2 : k < outs.length := by rw [b2]; exact (List.getElem?_eq_some_iff.mp hk).1
      have ho : outs[k]? = some outs[k] := by simp [hk2]
      have e2 := b4 k i _ hk ho
      rw [e] at e2
      cases e2
      obtain ⟨v, h1, h2⟩ := w1.slot k _ (get_map ho)
      obtain ⟨v', h3, h4⟩ := j.get k _ hk
      have h1 := map_get h1
      rw [h3] at h1
      cases h1
      rw [bckF_pl hn hk]
      exact ⟨_, h4, h2.stay (stays_less fun b z => (back_av hn h0 b).mpr z) fun _ _ _ q => q⟩
    · rw [b3 i hi] at e
      obtain ⟨v, h1, h2⟩ := w.slot i d e
      rw [bckF_no hi]
      exact ⟨v, h1, h2.stay st fun b hb o q => t.keep b o q (fno i b hi hb) (by obtain ⟨xs, q'⟩ := w.odom b ⟨i, hb⟩; rw [q] at q'; cases q'; intro ps z; cases z)⟩
  · by_cases hi : i ∈ places os
    · obtain ⟨k, hk⟩ := places_mem.mp hi
      have hk2 : k < outs.length := by rw [b2]; exact (List.getElem?_eq_some_iff.mp hk).1
      have ho : outs[k]? = some outs[k] := by simp [hk2]
      rw [bckF_pl hn hk]
      refine w1.emp k fun d' e' => ?_
      rw [get_map ho] at e'
      cases e'
      exact h _ (b4 k i _ hk ho)
    · rw [bckF_no hi]
      exact w.emp i fun d e => h d (by rw [b3 i hi]; exact e)
  · by_cases hi : i ∈ places os
    · obtain ⟨k, hk⟩ := places_mem.mp hi
      rw [bckF_pl hn hk] at h1
      by_cases hl2 : l ∈ places os
      · obtain ⟨k2, hk2⟩ := places_mem.mp hl2
        rw [bckF_pl hn hk2] at h2
        obtain rfl := w1.disj k k2 b h1 h2
        rw [hk] at hk2
        cases hk2
        rfl
      · rw [bckF_no hl2] at h2
        exact (w1.out b ⟨k, h1⟩ (.inl (.inr ⟨l, hl2, h2⟩))).elim
    · rw [bckF_no hi] at h1
      by_cases hl2 : l ∈ places os
      · obtain ⟨k2, hk2⟩ := places_mem.mp hl2
        rw [bckF_pl hn hk2] at h2
        exact (w1.out b ⟨k2, h2⟩ (.inl (.inr ⟨i, hi, h1⟩))).elim
      · rw [bckF_no hl2] at h2
        exact w.disj i l b h1 h2
  · by_cases hi : i ∈ places os
    · obtain ⟨k, hk⟩ := places_mem.mp hi
      rw [bckF_pl hn hk] at h
      exact w1.out b ⟨k, h⟩ (z.imp .inl id)
    · rw [bckF_no hi] at h
      rcases z with z | z
      · exact w.out b ⟨i, h⟩ z
      · exact fS i b hi h z
  · exact w1.dom b (z.imp .inl id)
end

/-! ### a call -/
abbrev cf0 (K : PySem.W.Frag) (T : Tb) (ec : Nat → Option (Addr × Str)) : Cf := ⟨K, T, fun _ => none, fun _ _ _ _ => False, ec⟩
/-- what is known of the k-th def, of the name x -/
structure FnAt (X : Cx) (B : Bs) (F : Fn) (lv : Nat) (x : Str) : Prop where
  ex : ∃ a fd ps, X.mg x = some (.ref a) ∧ PySem.W.keepIn X.K (.ref a) = true ∧ Binds X.K fd ps [] ∧ FnG X.prog X.w X.K X.mg X.base lv a fd ps (spF (cf0 X.K B.T B.ec) F)
def isPl : Opd → Bool
  | .pl _ => true
  | .val _ => false
theorem shape_A {Γ : Sig} : ∀ {es : Es} {ms : List Bool} {env : Env} {os : List Opd} {env' : Env}, evA Γ es ms env = some (.ok os env') → os.map isPl = ms
  | .nil, [], env, os, env', e => by
    rw [evA] at e
    cases e
    rfl
  | .nil, _ :: _, env, os, env', e => by
    rw [evA] at e
    · cases e
    all_goals (intros; simp_all)
  | .cons x es, [], env, os, env', e => by
    rw [evA] at e
    · cases e
    all_goals (intros; simp_all)
  | .cons x es, false :: ms, env, os, env', e => by
    rw [evA] at e
    rcases bind_cases e with ⟨c, d, env', h, e1⟩ | ⟨d, env1, hd, e1⟩
    · cases e1
    · rcases bind_cases e1 with ⟨c, d, env', h, e2⟩ | ⟨os', env2, hos, e2⟩
      · cases e2
      · cases e2
        simp [shape_A hos, isPl]
  | .cons x es, true :: ms, env, os, env', e => by
    cases x with
    | var i =>
      rw [evA] at e
      rcases bind_cases e with ⟨c, d, env', h, e1⟩ | ⟨o, env1, hd, e1⟩
      · cases e1
      · obtain ⟨_, hr⟩ := varR_ok hd
        cases hr
        rcases bind_cases e1 with ⟨c, d, env', h, e2⟩ | ⟨os', env2, hos, e2⟩
        · cases e2
        · cases e2
          simp [shape_A hos, isPl]
    | _ =>
      rw [evA] at e
      · cases e
      all_goals (intros; simp_all)
section
variable {X : Cx} {B : Bs} {Γ : Sig} {pos p : Pos} {e : Expr} {es : List Expr}
theorem call_read {F : Fn} {f : Nat} {args : List Bool → M (List Opd)} (hf : Γ.fn f = some F) (sh : ∀ env os env', args F.muts env = some (.ok os env') → os.map isPl = F.muts) :
    ∀ σ H Q, tO (cf X B) (callF Γ f args) σ H Q → tOpds (cf X B) (args F.muts) σ H fun vs H1 => spF (cf0 X.K B.T B.ec) F vs H1 Q fun cls d H' => B.W cls d σ H' := by
  rintro σ H Q ⟨A0, F0, env, w, q⟩
  unfold callF at q
  rw [hf] at q
  have q : tAt (cf X B) (.own (cf X B)) (M.bind (args F.muts) _) A0 F0 env σ H Q := q
  obtain ⟨r, e, ps⟩ := q
  refine ⟨A0, F0, env, w, ?_⟩
  unfold M.bind at e
  cases hm : args F.muts env with
  | none => rw [hm] at e; cases e
  | some g =>
    rw [hm] at e
    refine ⟨g, hm, ?_⟩
    cases g with
    | exn c d env' =>
      cases e
      exact ps
    | ok os env1 =>
      have hsh := sh _ _ _ hm
      intro vs H1 F1 t w1 j
      have ps := ps.trans t
      have j : jOpds X.K os σ (cup A0 (ow F1)) H1 vs := j
      simp only at e
      split at e
      · rename_i hn
        cases hh : hand os env1 with
        | none => rw [hh] at e; cases e
        | some ds =>
          rw [hh] at e
          simp only at e
          obtain ⟨hl, hat⟩ := hand_at hh
          have lens : ds.length = F.muts.length := by rw [hl, ← hsh, List.length_map]
          have ww := arg_wf (C := cf X B) w1 j hh hn
          have hP : ∀ k, F.muts.getD k false = (argP os vs k).isSome := fun k => by
            rw [← hsh]
            unfold argP
            cases ho : os[k]? with
            | none => simp [ho]
            | some o =>
              obtain ⟨v, hv, jv⟩ := j.get k _ ho
              rw [hv]
              cases o with
              | val d => simp [ho, isPl]
              | pl i =>
                have hk : k < ds.length := by rw [hl]; exact (List.getElem?_eq_some_iff.mp ho).1
                have hd' : ds[k]? = some ds[k] := by simp [hk]
                rcases hat k _ hd' with z | ⟨i', z, hi, own⟩
                · rw [ho] at z; cases z
                · rw [ho] at z
                  cases z
                  obtain ⟨u, h1, h2⟩ := w1.slot i _ hi
                  have jv : σ[i]? = some (some v) := jv
                  rw [jv] at h1
                  cases h1
                  obtain ⟨pa, rfl, _⟩ := h2.own_ref own
                  simp [ho, isPl]
          have hno : ∀ {F2 : Fo}, (∀ k, argP os vs k = none → F2 k = []) → ∀ k, (∀ i, os[k]? ≠ some (.pl i)) → F2 k = [] := fun h k hk => h k (by
            unfold argP
            split
            · rename_i i h1 h2; exact (hk _ h1).elim
            · rfl)
          cases hr : F.run ds with
          | none => rw [hr] at e; cases e
          | some ans =>
            rw [hr] at e
            refine ⟨argA A0 F1 os, argP os vs, argF F1 os, ds, ww, lens, hP, ans, hr, ?_⟩
            cases ans with
            | ret d outs =>
              obtain ⟨env2, hb, rfl⟩ := Option.map_eq_some_iff.mp e
              intro v H2 F2 S t2 w2 o nS h0
              obtain ⟨t3, w3⟩ := back_wf (C := cf X B) w1 j hh hn hb t2 w2 (hno h0)
              exact ps v H2 _ S t3 w3 (o.stay (stays_less fun b z => (back_av hn (hno h0) b).mpr z) fun _ _ _ q => q) fun b hb z => nS b hb (.inl z)
            | exn c d outs =>
              obtain ⟨env2, hb, rfl⟩ := Option.map_eq_some_iff.mp e
              intro H2 F2 cls dd t2 w2 ex h0
              have t2' : Tr (ow (argF F1 os)) H1 (cup (inL []) (ow F2)) H2 := t2.less fun b z => z.elim (fun z => nomatch z) id
              have w2' : Wf X.K B.T (cup (argA A0 F1 os) (inL [])) (argP os vs) F2 H2 (vs.map some) (outs.map some) := w2.less fun b z => z.elim id fun z => nomatch z
              obtain ⟨t3, w3⟩ := back_wf (C := cf X B) w1 j hh hn hb t2' w2' (hno h0)
              obtain ⟨a, fl, dx, v, e1, e2, e3, e4, e5⟩ := ex
              refine ps H2 _ cls dd (t3.less fun _ => .inr) w3.frozen ⟨a, fl, dx, v, e1, e2, e3, e4, e5.stay (stays_less fun b z => ?_)⟩
              have := (back_av hn (hno h0) (S := []) b).mpr (z.imp .inl id)
              rcases this with (z | z) | z
              · exact .inl z
              · cases z
              · exact .inr z
      · cases e
theorem de_call {F : Fn} {lv f : Nat} {x : Str} {args : List Bool → M (List Opd)} (hf : Γ.fn f = some F) (sh : ∀ env os env', args F.muts env = some (.ok os env') → os.map isPl = F.muts) (at_ : FnAt X B F lv x) (hr : Room lv X.A) (hgd : X.A.guards = some []) (gl : Gl X x) (tk : Takes X B.W)
    (ha : PA X (e :: es) (tOpds (cf X B) (args F.muts))) (hst : (e :: es).all noStar = true) (hdb : (x == ("__debug__" : Str)) = false) : PE X (.Call (.Name x p) (e :: es) [] pos) (tO (cf X B) (callF Γ f args)) := by
  obtain ⟨a, fd, ps, hm, hk, hb, G⟩ := at_.ex
  exact (pe_callG (E := fun σ cls d H => B.W cls d σ H) G hr hgd gl hm hk hb (fun σ => passAt tk σ) ha hst hdb).mono fun σ H Q q => call_read hf sh σ H Q q
theorem de_call0 {F : Fn} {lv f : Nat} {x : Str} {args : List Bool → M (List Opd)} (hf : Γ.fn f = some F) (sh : ∀ env os env', args F.muts env = some (.ok os env') → os.map isPl = F.muts) (at_ : FnAt X B F lv x) (hr : Room lv X.A) (hgd : X.A.guards = some []) (gl : Gl X x) (tk : Takes X B.W)
    (ha : ∀ env r, args F.muts env = some r → r = .ok [] env) (hdb : (x == ("__debug__" : Str)) = false) : PE X (.Call (.Name x p) [] [] pos) (tO (cf X B) (callF Γ f args)) := by
  obtain ⟨a, fd, ps, hm, hk, hb, G⟩ := at_.ex
  refine (pe_callG0 (E := fun σ cls d H => B.W cls d σ H) G hr hgd gl hm hk hb (fun σ => passAt tk σ) hdb).mono fun σ H Q q => ?_
  obtain ⟨A0, F0, env, w, r, e, ps⟩ := call_read hf sh σ H Q q
  obtain rfl := ha _ _ e
  exact ps [] H F0 Tr.refl w .nil
end
end Dz

set_option Elab.async false
set_option linter.all false
set_option maxRecDepth 100000
set_option maxHeartbeats 2000000
/-! Dz, part 8: targets, statements. -/
namespace Dz
open PySem PySem.Spec PyProof.Rows L2

/-- what is wanted behind a statement; O: what was owned ahead -/
def PostX (C : Cf) (A0 O : As) (H : Hp) (Dn : Ends) : Out → Prop
  | .nx env => ∀ σ H' F, Tr O H (ow F) H' → Wf C.K C.T A0 C.P F H' σ env → Dn.nx σ H'
  | .brk env => ∀ σ H' F, Tr O H (ow F) H' → Wf C.K C.T A0 C.P F H' σ env → Dn.bk σ H'
  | .ct env => ∀ σ H' F, Tr O H (ow F) H' → Wf C.K C.T A0 C.P F H' σ env → Dn.ct σ H'
  | .ret d env => ∀ v σ H' F S, Tr O H (cup (inL S) (ow F)) H' → Wf C.K C.T (cup A0 (inL S)) C.P F H' σ env → Ow C.K (cup (cup A0 (inL S)) (ow F)) H' v d S → (∀ b ∈ S, ¬ A0 b) → Dn.rt v H'
  | .exn c d env => ∀ σ H' F cls dd, Tr O H (ow F) H' → Wf C.K C.T A0 C.P F H' σ env → Exn C (cup A0 (ow F)) H' c d cls dd → C.W cls dd σ H'
theorem PostX.trans {C : Cf} {A0 O O1 : As} {H H1 : Hp} {Dn : Ends} (t : Tr O H O1 H1) : ∀ {o : Out}, PostX C A0 O H Dn o → PostX C A0 O1 H1 Dn o
  | .nx env, h => fun σ H' F t' => h σ H' F (t.trans t')
  | .brk env, h => fun σ H' F t' => h σ H' F (t.trans t')
  | .ct env, h => fun σ H' F t' => h σ H' F (t.trans t')
  | .ret d env, h => fun v σ H' F S t' => h v σ H' F S (t.trans t')
  | .exn c d env, h => fun σ H' F cls dd t' => h σ H' F cls dd (t.trans t')
def tAtX (C : Cf) (m : Env → Option Out) (A0 O : As) (env : Env) (H : Hp) (Dn : Ends) : Prop := ∃ o, m env = some o ∧ PostX C A0 O H Dn o
def tX (C : Cf) (m : Env → Option Out) : TS := fun Dn σ H => ∃ A0 F env, Wf C.K C.T A0 C.P F H σ env ∧ tAtX C m A0 (ow F) env H Dn
section
variable {C : Cf} {A0 : As} {F : Fo} {env : Env} {σ : L2.St} {H : Hp} {Dn : Ends} {α β : Type}
theorem run_bind {m : M α} {k : α → M β} {kk : β → Env → Option Out} : run (M.bind m k) kk = run m fun a => run (k a) kk := by
  funext env
  unfold run M.bind
  cases m env with
  | none => rfl
  | some q => cases q <;> rfl
theorem run_cases {m : M α} {kk : α → Env → Option Out} {o : Out} (e : run m kk env = some o) : (∃ c d env', m env = some (.exn c d env') ∧ o = .exn c d env') ∨ ∃ a env', m env = some (.ok a env') ∧ kk a env' = some o := by
  unfold run at e
  cases h : m env with
  | none => rw [h] at e; cases e
  | some q =>
    rw [h] at e
    cases q with
    | exn c d env' => exact .inl ⟨c, d, env', rfl, (Option.some.inj e).symm⟩
    | ok a env' => exact .inr ⟨a, env', rfl, e⟩
theorem exn_post {A0 : As} {kd : Kd C α β} {c : Nat} {d : D} {env' : Env} {Q : β → Hp → Prop} (p : PostX C A0 (ow F) H Dn (.exn c d env')) : Pst C kd A0 F H σ Q (.exn c d env') := fun H' F' cls dd t w ex => p σ H' F' cls dd t w ex
/-- an expression, then the rest -/
theorem tX_run {J : Rel α β} {m : M α} {kk : α → Env → Option Out} {Q1 : β → Hp → Prop} (w : Wf C.K C.T A0 C.P F H σ env) (h : tAtX C (run m kk) A0 (ow F) env H Dn)
    (hk : ∀ b H1 F1 env1 a, Tr (ow F) H (ow F1) H1 → Wf C.K C.T A0 C.P F1 H1 σ env1 → J a σ (cup A0 (ow F1)) H1 b → tAtX C (kk a) A0 (ow F1) env1 H1 Dn → Q1 b H1) : tG C (.of C J) m σ H Q1 := by
  obtain ⟨o, e, p⟩ := h
  refine ⟨A0, F, env, w, ?_⟩
  rcases run_cases e with ⟨c, d, env', h, rfl⟩ | ⟨a, env', h, e1⟩
  · exact ⟨_, h, exn_post p⟩
  · exact ⟨_, h, fun b H1 F1 t w1 j => hk b H1 F1 env' a t w1 j ⟨o, e1, p.trans t⟩⟩
/-- .. its value with what it owns -/
theorem tX_runO {m : M D} {kk : D → Env → Option Out} {Q1 : V → Hp → Prop} (w : Wf C.K C.T A0 C.P F H σ env) (h : tAtX C (run m kk) A0 (ow F) env H Dn)
    (hk : ∀ v H1 F1 S env1 d, Tr (ow F) H (cup (inL S) (ow F1)) H1 → Wf C.K C.T (cup A0 (inL S)) C.P F1 H1 σ env1 → Ow C.K (cup (cup A0 (inL S)) (ow F1)) H1 v d S → (∀ b ∈ S, ¬ A0 b) → tAtX C (kk d) A0 (cup (inL S) (ow F1)) env1 H1 Dn → Q1 v H1) : tO C m σ H Q1 := by
  obtain ⟨o, e, p⟩ := h
  refine ⟨A0, F, env, w, ?_⟩
  rcases run_cases e with ⟨c, d, env', h, rfl⟩ | ⟨a, env', h, e1⟩
  · exact ⟨_, h, exn_post p⟩
  · exact ⟨_, h, fun v H1 F1 S t w1 ow nS => hk v H1 F1 S env' a t w1 ow nS ⟨o, e1, p.trans t⟩⟩
/-- .. its value, frozen -/
theorem tX_runF {m : M D} {kk : D → Env → Option Out} {Q1 : V → Hp → Prop} (w : Wf C.K C.T A0 C.P F H σ env) (h : tAtX C (run m kk) A0 (ow F) env H Dn)
    (hk : ∀ v H1 F1 env1 d, Tr (ow F) H (ow F1) H1 → Wf C.K C.T A0 C.P F1 H1 σ env1 → Pu C.K (cup A0 (ow F1)) H1 v d.fz → tAtX C (kk d) A0 (ow F1) env1 H1 Dn → Q1 v H1) : tO C m σ H Q1 :=
  tX_runO w h fun v H1 F1 S env1 d t w1 o nS ⟨u, e, p⟩ => hk v H1 F1 env1 d (t.less fun _ => .inr) w1.frozen (o.frozen (fun b z => z.imp .inl id) fun b hb z => z.elim (nS b hb) fun z => w1.out b z (.inr hb)) ⟨u, e, p.trans (Tr.refl.less fun _ => .inr)⟩
/-- how a meaning without statements ends -/
theorem run_ret {a : α} {kk : α → Env → Option Out} : run (M.ret a) kk = kk a := rfl
def stoF (F : Fo) (i : Nat) (S : List Addr) : Fo := fun j => if j = i then S else F j
theorem stoF_at {i : Nat} {S : List Addr} : stoF F i S i = S := by unfold stoF; rw [if_pos rfl]
theorem stoF_ne {i j : Nat} {S : List Addr} (h : j ≠ i) : stoF F i S j = F j := by unfold stoF; rw [if_neg h]
theorem stoF_le {i : Nat} {S : List Addr} : ∀ b, ow (stoF F i S) b → b ∈ S ∨ ow F b := fun b ⟨j, h⟩ => by
  by_cases hj : j = i
  · subst hj; rw [stoF_at] at h; exact .inl h
  · rw [stoF_ne hj] at h; exact .inr ⟨j, h⟩
/-- a value is stored to a name -/
theorem Wf.store {i : Nat} {v : V} {d : D} {S : List Addr} (w : Wf C.K C.T (cup A0 (inL S)) C.P F H σ env) (o : Ow C.K (cup (cup A0 (inL S)) (ow F)) H v d S) (nS : ∀ b ∈ S, ¬ A0 b) (hi : i < env.length) (hp : C.P i = none) :
    Wf C.K C.T A0 C.P (stoF F i S) H (σ.set i (some v)) (env.set i (some d)) := by
  have hiσ : i < σ.length := by rw [← w.len]; exact hi
  have le : ∀ b, cup A0 (ow (stoF F i S)) b → cup (cup A0 (inL S)) (ow F) b := fun b z => by
    rcases z with z | z
    · exact .inl (.inl z)
    · exact (stoF_le b z).elim (fun z => .inl (.inr z)) .inr
  have st := stays_less (H := H) le
  refine ⟨by rw [List.length_set, List.length_set]; exact w.len, fun j d' e => ?_, fun j h => ?_, fun j k b h1 h2 => ?_, fun b z y => ?_, fun b z => w.dom b (.inl z), w.tabs, fun j p e => ?_⟩
  · by_cases hj : j = i
    · subst hj
      rw [List.getElem?_set_self hi] at e
      cases e
      refine ⟨v, by rw [List.getElem?_set_self hiσ], ?_⟩
      rw [stoF_at]
      exact o.stay st fun _ _ _ q => q
    · rw [List.getElem?_set_ne (Ne.symm hj)] at e
      obtain ⟨u, h1, h2⟩ := w.slot j d' e
      refine ⟨u, by rw [List.getElem?_set_ne (Ne.symm hj)]; exact h1, ?_⟩
      rw [stoF_ne hj]
      exact h2.stay st fun _ _ _ q => q
  · by_cases hj : j = i
    · subst hj
      rw [stoF_at]
      have := h d (by rw [List.getElem?_set_self hi])
      cases o with
      | pu _ => rfl
      | lst _ _ => cases this
    · rw [stoF_ne hj]
      exact w.emp j fun d' e => h d' (by rw [List.getElem?_set_ne (Ne.symm hj)]; exact e)
  · by_cases hj : j = i
    · subst hj
      rw [stoF_at] at h1
      by_cases hk : k = j
      · exact hk.symm
      · rw [stoF_ne hk] at h2
        exact (w.out b ⟨k, h2⟩ (.inr h1)).elim
    · rw [stoF_ne hj] at h1
      by_cases hk : k = i
      · subst hk
        rw [stoF_at] at h2
        exact (w.out b ⟨j, h1⟩ (.inr h2)).elim
      · rw [stoF_ne hk] at h2
        exact w.disj j k b h1 h2
  · rcases stoF_le b z with z | z
    · exact nS b z y
    · exact w.out b z (.inl y)
  · by_cases hj : j = i
    · subst hj; rw [hp] at e; cases e
    · rw [List.getElem?_set_ne (Ne.symm hj)]
      exact w.pins j p e
theorem store_tr {i : Nat} {S : List Addr} : Tr (cup (inL S) (ow F)) H (ow (stoF F i S)) H := Tr.refl.less fun b z => stoF_le b z
end
/-- the pinned names are the changed arguments -/
def PinOk (Γ : Sig) (P : Nat → Option Addr) : Prop := ∀ i, Γ.pin i = false → P i = none

section
variable {X : Cx} {B : Bs} {Γ : Sig} {pos : Pos} {e : Expr}
theorem setV_ok {i : Nat} {d : D} {env : Env} {r : Res Unit} (e : setV i d env = some r) : i < env.length ∧ r = .ok () (env.set i (some d)) := by
  unfold setV at e
  split at e
  · rename_i h; exact ⟨h, (Option.some.inj e).symm⟩
  · cases e
theorem stV_ok {i : Nat} {d : D} {env : Env} {r : Res Unit} (e : stV Γ i d env = some r) : Γ.pin i = false ∧ i < env.length ∧ r = .ok () (env.set i (some d)) := by
  unfold stV at e
  split at e
  · cases e
  · rename_i h; exact ⟨by simpa using h, setV_ok e⟩
/-- what is wanted of a target's store -/
def gT (C : Cf) (pin : Nat → Bool) (t : T) : TG := fun v σ H Q => ∃ A0 F env d env', Wf C.K C.T A0 C.P F H σ env ∧ Pu C.K (cup A0 (ow F)) H v d ∧ asT pin t d env = some (.ok () env') ∧ ∀ σ' F', (∀ b, ow F' b → ow F b) → Wf C.K C.T A0 C.P F' H σ' env' → (∀ i, i ∉ t.slots → σ'[i]? = σ[i]?) → Q σ' H
def gTs (C : Cf) (pin : Nat → Bool) (ts : Ts) : TGs := fun vs σ H Q => ∃ A0 F env ds env', Wf C.K C.T A0 C.P F H σ env ∧ Pus C.K (cup A0 (ow F)) H vs ds ∧ asTs pin ts ds env = some (.ok () env') ∧ ∀ σ' F', (∀ b, ow F' b → ow F b) → Wf C.K C.T A0 C.P F' H σ' env' → (∀ i, i ∉ ts.slots → σ'[i]? = σ[i]?) → Q σ' H
theorem _root_.L2.PG.mono {tg : Expr} {t t' : TG} (h : PG X tg t) (k : ∀ v σ H Q, t' v σ H Q → t v σ H Q) : PG X tg t' := ⟨fun pins s σ H v u Q I r q => h.run pins s σ H v u Q I r (k v σ H Q q)⟩
theorem _root_.L2.PGs.mono {ts : List Expr} {t t' : TGs} (h : PGs X ts t) (k : ∀ v σ H Q, t' v σ H Q → t v σ H Q) : PGs X ts t' := ⟨fun pins s σ H v u Q I r q => h.run pins s σ H v u Q I r (k v σ H Q q)⟩
theorem dg_name {i : Nat} {x : Str} (hp : PinOk Γ B.P) (hN : X.N.Nodup) (hi : X.N[i]? = some x) (hx : Loc X.env.scope x) (hf : X.fn x = true ∨ X.env.scope.names.lookup x = some .local) : PG X (.Name x pos) (gT (cf X B) Γ.pin (.nm i)) := by
  refine (pg_name hN hi hx hf).mono fun v σ H Q ⟨A0, F, env, d, env', w, pu, e, h⟩ => ?_
  have e : (if Γ.pin i then M.fail else setV i d) env = some (.ok () env') := by rw [asT] at e; exact e
  split at e
  · cases e
  · rename_i hpi
    obtain ⟨h1, h2⟩ := setV_ok e
    cases h2
    have w' : Wf X.K B.T (cup A0 (inL [])) B.P F H σ env := w.less fun b z => z.elim id fun z => nomatch z
    refine h _ (stoF F i []) (fun b z => (stoF_le b z).elim (fun z => nomatch z) id) (w'.store (C := cf X B) (.pu (pu.stay (stays_less fun b z => z.imp (fun z => z.elim id fun z => nomatch z) id))) (fun b z => nomatch z) h1 (hp i (by simpa using hpi))) fun j hj => by
      rw [List.getElem?_set_ne (fun z => hj (by rw [← z]; simp [T.slots]))]
theorem asT_tp {pin : Nat → Bool} {ts : Ts} {d : D} {env : Env} {r : Res Unit} (e : asT pin (.tp ts) d env = some r) : ∃ ds, d = .tup ds ∧ asTs pin ts ds env = some r := by
  cases d <;> first | exact ⟨_, rfl, by simpa [asT] using e⟩ | (simp [asT, M.fail] at e)
theorem asTs_nil {pin : Nat → Bool} {ds : List D} {env : Env} {r : Res Unit} (e : asTs pin .nil ds env = some r) : ds = [] ∧ r = .ok () env := by
  cases ds with
  | nil => rw [asTs] at e; cases e; exact ⟨rfl, rfl⟩
  | cons d ds => simp [asTs, M.fail] at e
theorem asTs_cons {pin : Nat → Bool} {t : T} {ts : Ts} {ds : List D} {env : Env} {r : Res Unit} (e : asTs pin (.cons t ts) ds env = some r) : ∃ d r', ds = d :: r' ∧ M.bind (asT pin t d) (fun _ => asTs pin ts r') env = some r := by
  cases ds with
  | nil => simp [asTs, M.fail] at e
  | cons d ds => rw [asTs] at e; exact ⟨d, ds, rfl, e⟩
def Ts.len : Ts → Nat
  | .nil => 0
  | .cons _ ts => ts.len + 1
theorem asTs_len {pin : Nat → Bool} : ∀ {ts : Ts} {ds : List D} {env : Env} {r : Res Unit} , asTs pin ts ds env = some (.ok () env') → ds.length = ts.len
  | .nil, ds, env, r, e => by rw [(asTs_nil e).1]; rfl
  | .cons t ts, ds, env, r, e => by
    obtain ⟨d, r', rfl, e⟩ := asTs_cons e
    rcases bind_cases e with ⟨c, d, env1, q, e1⟩ | ⟨u, env1, q, e1⟩
    · cases e1
    · simp [Ts.len, asTs_len (r := r) e1]
theorem dgs_nil : PGs X [] (gTs (cf X B) Γ.pin .nil) := pgs_nil.mono fun vs σ H Q ⟨A0, F, env, ds, env', w, pu, e, h⟩ => by
  obtain ⟨rfl, e⟩ := asTs_nil e
  cases pu
  cases e
  exact ⟨rfl, h σ F (fun _ z => z) w fun _ _ => rfl⟩
theorem dgs_cons {es : List Expr} {t : T} {ts : Ts} (h1 : PG X e (gT (cf X B) Γ.pin t)) (h2 : PGs X es (gTs (cf X B) Γ.pin ts)) (hs : (assignEach (e :: es) X.env).map (·.2) = assign e X.env :: (assignEach es X.env).map (·.2)) : PGs X (e :: es) (gTs (cf X B) Γ.pin (.cons t ts)) := by
  refine (pgs_cons h1 h2 hs).mono fun vs σ H Q ⟨A0, F, env, ds, env', w, pu, e, h⟩ => ?_
  obtain ⟨d, r', rfl, e⟩ := asTs_cons e
  cases pu with
  | cons p ps =>
    rcases bind_cases e with ⟨c, d, env1, q, e1⟩ | ⟨u, env1, q, e1⟩
    · cases e1
    · refine ⟨_, _, rfl, A0, F, env, _, env1, w, p, q, fun σ' F' hF w' hσ => ?_⟩
      exact ⟨A0, F', env1, _, env', w', ps.stay (stays_less fun b z => z.imp id (hF b)), e1, fun σ2 F2 hF2 w2 hσ2 => h σ2 F2 (fun b z => hF b (hF2 b z)) w2 fun i hi => by
        simp only [Ts.slots, List.mem_append, not_or] at hi
        rw [hσ2 i hi.2, hσ i hi.1]⟩
theorem dg_tup {es : List Expr} {k : Nat} {ts : Ts} (hc : X.calm = true) (h : PGs X es (gTs (cf X B) Γ.pin ts)) (hn : (assignEach es X.env).length = ts.len) (hst : (assignEach es X.env).findIdx? (·.1) = none) : PG X (.Tuple es k pos) (gT (cf X B) Γ.pin (.tp ts)) := by
  refine (pg_tup hc h hn hst).mono fun v σ H Q ⟨A0, F, env, d, env', w, pu, e, hk⟩ => ?_
  obtain ⟨ds, rfl, e⟩ := asT_tp e
  cases pu with
  | tup ht hs => exact ⟨_, _, rfl, ht.sq, by rw [hs.length, asTs_len (r := .ok () env') e], A0, F, env, ds, env', w, hs, e, fun σ' F' hF w' hσ => hk σ' F' hF w' fun i hi => hσ i (by simpa [T.slots] using hi)⟩

/-! ### statements -/
theorem _root_.L2.PS.mono {st : Stmt} {t t' : TS} (h : PS X st t) (k : ∀ D σ H, t' D σ H → t D σ H) : PS X st t' := ⟨fun pins s σ H D I q => h.run pins s σ H D I (k D σ H q)⟩
theorem _root_.L2.PSs.mono {st : List Stmt} {t t' : TS} (h : PSs X st t) (k : ∀ D σ H, t' D σ H → t D σ H) : PSs X st t' := ⟨fun pins s σ H D I q => h.run pins s σ H D I (k D σ H q)⟩
theorem tAtX_some {C : Cf} {o : Out} {m : Env → Option Out} {A0 O : As} {env : Env} {H : Hp} {Dn : Ends} (h : tAtX C m A0 O env H Dn) (e : m env = some o) : PostX C A0 O H Dn o := by
  obtain ⟨o', e', p⟩ := h
  rw [e] at e'
  cases e'
  exact p
theorem dss_nil : PSs X [] (tX (cf X B) (exs Γ .nil)) := pss_nil.mono fun D σ H ⟨A0, F, env, w, q⟩ => tAtX_some (o := .nx env) q (by rw [exs]) σ H F Tr.refl w
theorem dss_cons {st : Stmt} {rest : List Stmt} {s : S} {ss : Ss} (h1 : PS X st (tX (cf X B) (ex Γ s))) (h2 : PSs X rest (tX (cf X B) (exs Γ ss))) : PSs X (st :: rest) (tX (cf X B) (exs Γ (.cons s ss))) := by
  refine (pss_cons h1 h2).mono fun D σ H ⟨A0, F, env, w, o, e, p⟩ => ?_
  refine ⟨A0, F, env, w, ?_⟩
  rw [exs] at e
  cases h : ex Γ s env with
  | none => rw [h] at e; cases e
  | some q =>
    rw [h] at e
    refine ⟨q, h, ?_⟩
    cases q with
    | nx env' => exact fun σ' H' F' t w' => ⟨A0, F', env', w', o, e, p.trans t⟩
    | brk env' => cases e; exact p
    | ct env' => cases e; exact p
    | ret d env' => cases e; exact p
    | exn c d env' => cases e; exact p
theorem ds_pass : PS X (.Pass pos) (tX (cf X B) (ex Γ .pass)) := ps_pass.mono fun D σ H ⟨A0, F, env, w, q⟩ => tAtX_some (o := .nx env) q (by rw [ex]) σ H F Tr.refl w
theorem ds_expr {s : S} {m : M D} (he : PE X e (tO (cf X B) m)) (hs : swapsWith e none pos.line X.env = pure false) (hx : ex Γ s = run m fun _ env => some (.nx env)) : PS X (.Expr e pos) (tX (cf X B) (ex Γ s)) := by
  refine (ps_expr he hs).mono fun D σ H ⟨A0, F, env, w, q⟩ => ?_
  rw [hx] at q
  exact tX_runF w q fun v H1 F1 env1 d t w1 pu q1 => tAtX_some (o := .nx env1) q1 rfl σ H1 F1 Tr.refl w1
/-- what a store of an owned value asks -/
theorem asg_read {i : Nat} {m : M D} (hp : PinOk Γ B.P) : ∀ D σ H, tX (cf X B) (run (M.bind m fun d => stV Γ i d) nxt) D σ H → tAsg (tO (cf X B) m) (gName i) D σ H := by
  rintro D σ H ⟨A0, F, env, w, q⟩
  rw [run_bind] at q
  refine tX_runO w q fun v H1 F1 S env1 d t w1 o nS q1 => ?_
  obtain ⟨u, e, p⟩ := q1
  rcases run_cases e with ⟨c, x, env2, h, rfl⟩ | ⟨a, env2, h, e1⟩
  · obtain ⟨_, _, h⟩ := stV_ok h; cases h
  · obtain ⟨h1, h2, h3⟩ := stV_ok h
    cases h3
    cases e1
    exact p _ H1 _ store_tr (w1.store (C := cf X B) o nS h2 (hp i h1))
theorem ds_asg {i : Nat} {x : Str} {pos' : Pos} {m : M D} (hp : PinOk Γ B.P) (hN : X.N.Nodup) (hi : X.N[i]? = some x) (hx : Loc X.env.scope x) (hf : X.fn x = true ∨ X.env.scope.names.lookup x = some .local) (he : PE X e (tO (cf X B) m)) (hs : swapsWith e (some (.Name x pos')) pos.line X.env = pure false) :
    PS X (.Assign [.Name x pos'] e pos) (tX (cf X B) (run (M.bind m fun d => stV Γ i d) nxt)) := (ps_set hN hi hx he hs hf).mono (asg_read hp)
theorem ds_asgT {tg : Expr} {t : T} {m : M D} (he : PE X e (tO (cf X B) m)) (hg : PG X tg (gT (cf X B) Γ.pin t)) (hs : swapsWithSole [tg] e pos.line X.env = pure false) (hw : swappedStores [tg] e X.env = pure none) (h1 : (assignEach [tg] X.env).map (·.2) = [assign tg X.env]) (hx : ∀ d env r, asT Γ.pin t d env = some r → ∃ env', r = .ok () env') :
    PS X (.Assign [tg] e pos) (tX (cf X B) (run (M.bind m fun d => asT Γ.pin t d.fz) nxt)) := by
  refine (ps_asg he hg hs hw h1).mono fun D σ H ⟨A0, F, env, w, q⟩ => ?_
  rw [run_bind] at q
  refine tX_runF w q fun v H1 F1 env1 d t w1 pu q1 => ?_
  obtain ⟨u, e, p⟩ := q1
  rcases run_cases e with ⟨c, x, env2, h, rfl⟩ | ⟨a, env2, h, e1⟩
  · obtain ⟨_, h⟩ := hx _ _ _ h; cases h
  · cases e1
    exact ⟨A0, F1, env1, _, env2, w1, pu, h, fun σ' F' hF w' _ => p σ' H1 F' (Tr.refl.less hF) w'⟩
theorem ds_ret {m : M D} (he : PE X e (tO (cf X B) m)) : PS X (.Return (some e) pos) (tX (cf X B) (run m fun d env => some (.ret d env))) := by
  refine (ps_ret he).mono fun D σ H ⟨A0, F, env, w, q⟩ => ?_
  exact tX_runO w q fun v H1 F1 S env1 d t w1 o nS q1 => by
    obtain ⟨u, e, p⟩ := q1
    cases e
    exact p v σ H1 F1 S Tr.refl w1 o nS
theorem ds_if {c : Expr} {a b : List Stmt} {mc : M Bool} {ma mb : Env → Option Out} (hc : PT X c (tTst (cf X B) mc)) (ha : PSs X a (tX (cf X B) ma)) (hb : PSs X b (tX (cf X B) mb)) :
    PS X (.If c a b pos) (tX (cf X B) (run mc fun k env => if k then ma env else mb env)) := by
  refine (ps_if hc ha hb).mono fun D σ H ⟨A0, F, env, w, q⟩ => tX_run (J := jB) w q fun v H1 F1 env1 d t w1 j q1 => ?_
  obtain rfl : d = v := j
  obtain ⟨u, e, p⟩ := q1
  cases d with
  | true => exact ⟨A0, F1, env1, w1, u, e, p⟩
  | false => exact ⟨A0, F1, env1, w1, u, e, p⟩
/-- a, b = x, y -/
theorem ds_retv {i : Nat} {x : Str} {ps : Pos} (hN : X.N[i]? = some x) (hv : Vis X.env.scope x) (hd : (x == ("__debug__" : Str)) = false) (hcd : (x == ("__classdict__" : Str)) = false) : PE X (.Name x ps) (tO (cf X B) (retF Γ (.var i) M.fail)) := by
  refine (pe_var hN hv hd hcd).mono fun σ H Q ⟨A0, F, env, w, r, e, p⟩ => ?_
  have e : (match env[i]? with
    | some (some d) => if d.isOwn then (if Γ.pin i then none else some (.ok d (env.set i none))) else some (.ok d env)
    | _ => none) = some r := e
  split at e
  · rename_i d hd
    obtain ⟨v, h1, h2⟩ := w.slot i d hd
    refine ⟨v, h1, ?_⟩
    split at e
    · rename_i ho
      split at e
      · cases e
      · cases e
        have hi : i < env.length := (List.getElem?_eq_some_iff.mp hd).1
        have le : ∀ b, cup (cup A0 (inL (F i))) (ow (dropF F i)) b → cup A0 (ow F) b := fun b z => by
          rcases z with (z | z) | z
          · exact .inl z
          · exact .inr ⟨i, z⟩
          · exact .inr (dropF_le b z)
        have st := stays_less (H := H) le
        refine p v H (dropF F i) (F i) (Tr.refl.less fun b z => z.elim (fun z => ⟨i, z⟩) (dropF_le b)) ⟨by rw [List.length_set]; exact w.len, fun j d' e' => ?_, fun j h => ?_, fun j k b g1 g2 => ?_, fun b z y => ?_, fun b z => ?_, w.tabs, w.pins⟩ (h2.stay st fun _ _ _ q => q) fun b hb => w.out b ⟨i, hb⟩
        · by_cases hj : j = i
          · subst hj; rw [List.getElem?_set_self hi] at e'; cases e'
          · rw [List.getElem?_set_ne (Ne.symm hj)] at e'
            obtain ⟨u, g1, g2⟩ := w.slot j d' e'
            have : dropF F i j = F j := by unfold dropF; rw [if_neg hj]
            rw [this]
            exact ⟨u, g1, g2.stay st fun _ _ _ q => q⟩
        · unfold dropF
          split
          · rfl
          · rename_i n
            exact w.emp j fun d' e' => h d' (by rw [List.getElem?_set_ne (Ne.symm n)]; exact e')
        · unfold dropF at g1 g2
          split at g1
          · cases g1
          · split at g2
            · cases g2
            · exact w.disj j k b g1 g2
        · rcases y with y | y
          · exact w.out b (dropF_le b z) y
          · exact dropF_not w b y z
        · rcases z with z | z
          · exact w.dom b z
          · obtain ⟨xs, q⟩ := w.odom b ⟨i, z⟩
            rw [q]; simp
    · rename_i ho
      cases e
      have no : d.isOwn = false := by simpa using ho
      have pu := h2.frozen (Av' := cup A0 (ow F)) (fun _ z => z) fun b hb => by rw [w.emp i fun d' e' => by rw [hd] at e'; cases e'; exact no] at hb; cases hb
      rw [D.fz_of no] at pu
      exact own_of_pu p w pu
  · cases e
end
end Dz

set_option Elab.async false
set_option linter.all false
set_option maxRecDepth 100000
set_option maxHeartbeats 2000000
/-! Dz, part 9: more statements; loops. -/
namespace Dz
open PySem PySem.Spec PyProof.Rows L2
section
variable {X : Cx} {B : Bs} {Γ : Sig} {pos : Pos} {e a b : Expr}
/-! ### a, b = x, y -/
theorem PostX.exn_more {C : Cf} {A0 : As} {F : Fo} {S : List Addr} {H : Hp} {Dn : Ends} {c : Nat} {d : D} {env : Env} (p : PostX C A0 (cup (inL S) (ow F)) H Dn (.exn c d env)) : PostX C (cup A0 (inL S)) (ow F) H Dn (.exn c d env) := by
  intro σ H' F' cls dd t w ex
  obtain ⟨a, f, dx, v, e1, e2, e3, e4, e5⟩ := ex
  exact p σ H' F' cls dd ⟨fun b o h n q => t.keep b o h (fun z => n (.inr z)) q, t.dom, fun b z => (t.grow b z).imp .inr id⟩ w.frozen ⟨a, f, dx, v, e1, e2, e3, e4, e5.stay (stays_less fun b z => z.imp .inl id)⟩
theorem par_read {i j : Nat} {ma mb : M D} (hp : PinOk Γ B.P) (hij : i ≠ j) : ∀ D σ H, tX (cf X B) (run (parF Γ i j ma mb) nxt) D σ H → tPar i j (tCons (tO (cf X B) ma) (tCons (tO (cf X B) mb) tNil)) D σ H := by
  rintro D σ H ⟨A0, F, env, w, q⟩
  unfold parF at q
  rw [run_bind] at q
  refine tX_runO w q fun x H1 F1 S1 env1 d1 t1 w1 o1 n1 q1 => ?_
  obtain ⟨u, e, p⟩ := q1
  rw [run_bind] at e
  refine ⟨cup A0 (inL S1), F1, env1, w1, ?_⟩
  rcases run_cases e with ⟨c, d, env2, h, rfl⟩ | ⟨d2, env2, h, e1⟩
  · exact ⟨_, h, exn_post p.exn_more⟩
  · refine ⟨_, h, fun y H2 F2 S2 t2 w2 o2 n2 => ⟨x, y, rfl, ?_⟩⟩
    rw [run_bind] at e1
    rcases run_cases e1 with ⟨c, d, env3, h, _⟩ | ⟨a3, env3, h3, e3⟩
    · obtain ⟨_, _, h⟩ := stV_ok h; cases h
    · obtain ⟨pi, li, h3⟩ := stV_ok h3
      cases h3
      rcases run_cases e3 with ⟨c, d, env3, h, _⟩ | ⟨a4, env4, h4, e4⟩
      · obtain ⟨_, _, h⟩ := stV_ok h; cases h
      · obtain ⟨pj, lj, h4⟩ := stV_ok h4
        cases h4
        cases e4
        -- what the first owns stands still behind the second
        have kS : ∀ b ∈ S1, ∀ o, H1 b = some o → nt o → H2 b = some o := fun b hb o q nn => t2.keep b o q (fun z => w1.out b z (.inr hb)) nn
        have st : Stays (cup (cup A0 (inL S1)) (ow F1)) H1 (cup (cup (cup A0 (inL S2)) (inL S1)) (ow F2)) H2 := fun b o q n nn => by
          refine ⟨t2.keep b o q (fun z => n (.inr z)) nn, fun z => ?_⟩
          rcases z with ((z | z) | z) | z
          · exact n (.inl (.inl z))
          · rcases t2.grow b (.inl z) with y | y
            · exact n (.inr y)
            · rw [q] at y; cases y
          · exact n (.inl (.inr z))
          · rcases t2.grow b (.inr z) with y | y
            · exact n (.inr y)
            · rw [q] at y; cases y
        have perm : ∀ b, cup (cup A0 (inL S2)) (inL S1) b ↔ cup (cup A0 (inL S1)) (inL S2) b := fun b => by
          constructor <;> (rintro ((z | z) | z); exact .inl (.inl z); exact .inr z; exact .inl (.inr z))
        have o1' : Ow X.K (cup (cup (cup A0 (inL S2)) (inL S1)) (ow F2)) H2 x d1 S1 := o1.stay st fun b hb o q => by
          refine kS b hb o q ?_
          cases o1 with
          | pu _ => cases hb
          | lst g _ =>
            rw [List.mem_singleton.mp hb, g] at q
            cases q
            intro ps z
            cases z
        have w2' : Wf X.K B.T (cup (cup A0 (inL S2)) (inL S1)) B.P F2 H2 σ env2 := w2.less fun b z => (perm b).mp z
        have w3 := w2'.store (C := cf X B) (i := i) o1' (fun b hb z => z.elim (n1 b hb) fun z => n2 b z (.inr hb)) li (hp i pi)
        have w4 := w3.store (C := cf X B) (i := j) (o2.stay (stays_less fun b z => ?_) fun _ _ _ q => q) (fun b hb z => n2 b hb (.inl z)) (by simpa using lj) (hp j pj)
        · refine p _ H2 _ ⟨fun b o q n nn => t2.keep b o q (fun z => n (.inr z)) nn, t2.dom, fun b z => ?_⟩ w4
          rcases stoF_le b z with z | z
          · rcases t2.grow b (.inl z) with y | y
            · exact .inl (.inr y)
            · exact .inr y
          · rcases stoF_le b z with z | z
            · exact .inl (.inl z)
            · rcases t2.grow b (.inr z) with y | y
              · exact .inl (.inr y)
              · exact .inr y
        · rcases z with (z | z) | z
          · exact .inl (.inl (.inl z))
          · exact .inl (.inr z)
          · rcases stoF_le b z with z | z
            · exact .inl (.inl (.inr z))
            · exact .inr z
theorem ds_par {i j : Nat} {x y : Str} {px py pt : Pos} {kt k2 : Nat} {pt2 : Pos} {ma mb : M D} (hp : PinOk Γ B.P) (hc : X.calm = true) (hN : X.N.Nodup) (hi : X.N[i]? = some x) (hj : X.N[j]? = some y) (hij : i ≠ j)
    (hx : X.env.scope.names.lookup x = some .local) (hy : X.env.scope.names.lookup y = some .local) (ha : PE X a (tO (cf X B) ma)) (hb : PE X b (tO (cf X B) mb)) (hst : noStar a = true ∧ noStar b = true)
    (hw : swappedStores [.Tuple [.Name x px, .Name y py] kt pt] (.Tuple [a, b] k2 pt2) X.env = pure (some [x, y])) :
    PS X (.Assign [.Tuple [.Name x px, .Name y py] kt pt] (.Tuple [a, b] k2 pt2) pos) (tX (cf X B) (run (parF Γ i j ma mb) nxt)) :=
  (ps_par hc hN hi hj hij hx hy (pa_cons ha (pa_cons hb pa_nil (star1 hst.2)) (star1 hst.1)) hw).mono (par_read hp hij)

/-! ### name op= e; x[k] = e; x[k] op= e -/
theorem opt_exn {α : Type} {o : Option α} {env env' : Env} {c : Nat} {d : D} (e : M.opt o env = some (.exn c d env')) : False := by
  unfold M.opt at e
  cases o <;> cases e
theorem opt_ok {α : Type} {o : Option α} {env env' : Env} {a : α} (e : M.opt o env = some (.ok a env')) : o = some a ∧ env' = env := by
  unfold M.opt at e
  cases o <;> cases e
  exact ⟨rfl, rfl⟩
theorem augD_some {o : Op2} {x y z : D} (h : augD o x y = some z) : ∃ a b f, x = .int a ∧ y = .int b ∧ opI o = some f ∧ z = .int (f a b) := by
  unfold augD at h
  split at h
  · cases h; exact ⟨_, _, _, rfl, rfl, by assumption, rfl⟩
  · cases h
theorem ipI_of {op : Operator} {o : Op2} {f : Int → Int → Int} (ho : (match op with | .Add => some Op2.add | .Sub => some .sub | _ => none) = some o) (hf : opI o = some f) : PIp X op (ipI f) := by
  cases op <;> cases ho
  · cases hf; exact ip_add
  · cases hf; exact ip_sub
theorem ds_aug {i : Nat} {x : Str} {op : Operator} {o : Op2} {pos' : Pos} {m : M D} (hp : PinOk Γ B.P) (hN : X.N.Nodup) (hi : X.N[i]? = some x) (hx : Loc X.env.scope x) (hf : X.fn x = true ∨ X.env.scope.names.lookup x = some .local)
    (ho : (match op with | .Add => some Op2.add | .Sub => some .sub | _ => none) = some o) (he : PE X e (tO (cf X B) m)) : PS X (.AugAssign (.Name x pos') op e pos) (tX (cf X B) (run (augV Γ i o m) nxt)) := by
  obtain ⟨f, hfo⟩ : ∃ f, opI o = some f := by cases op <;> cases ho <;> exact ⟨_, rfl⟩
  refine (ps_aug hN hi hx he (ipI_of ho hfo) hf).mono fun D σ H ⟨A0, F, env, w, q⟩ => ?_
  unfold augV at q
  obtain ⟨u, e, p⟩ := q
  rw [run_bind] at e
  rcases run_cases e with ⟨c, d, env1, h, _⟩ | ⟨o1, env1, h1, e1⟩
  · obtain ⟨_, h⟩ := varR_ok h; cases h
  · obtain ⟨⟨d0, hd0⟩, h1⟩ := varR_ok h1
    cases h1
    obtain ⟨v, g1, g2⟩ := w.slot i d0 hd0
    refine ⟨v, g1, ?_⟩
    rw [run_bind] at e1
    rcases run_cases e1 with ⟨c, d, env1, h, _⟩ | ⟨d1, env1, h1, e2⟩
    · exact (get_exn h).elim
    · obtain ⟨rfl, op1⟩ := get_ok (C := cf X B) w (o := .pl i) (v := v) g1 h1
      rw [run_bind] at e2
      refine tX_runF w ⟨u, e2, p⟩ fun y H1 F1 env2 d2 t1 w1 pu q1 => ?_
      obtain ⟨u', e3, p3⟩ := q1
      rw [run_bind] at e3
      rcases run_cases e3 with ⟨c, d, env3, h, _⟩ | ⟨z, env3, hz, e4⟩
      · exact (opt_exn h).elim
      · obtain ⟨hz, he⟩ := opt_ok hz
        rw [he] at e4
        obtain ⟨a, b, f', rfl, rfl, hf', rfl⟩ := augD_some hz
        rw [hfo] at hf'
        cases hf'
        rcases run_cases e4 with ⟨c, x, env3, h, _⟩ | ⟨a', env3, h, e5⟩
        · obtain ⟨_, _, h⟩ := stV_ok h; cases h
        · obtain ⟨pi, li, h⟩ := stV_ok h
          cases h
          cases e5
          cases pu
          have v0 : v = .int a := op1.int
          subst v0
          refine ⟨a, b, rfl, rfl, ?_⟩
          have w1' : Wf X.K B.T (cup A0 (inL [])) B.P F1 H1 σ env2 := w1.less fun b z => z.elim id fun z => nomatch z
          exact p3 _ H1 _ (Tr.refl.less fun b z => (stoF_le b z).elim (fun z => absurd z (List.not_mem_nil)) id) (w1'.store (C := cf X B) (S := []) (.pu (.int _)) (fun b z => absurd z (List.not_mem_nil)) li (hp i pi))
theorem rIxL_get : PGet X (rIxL X.K) := by
  intro pins s σ H o i ov iv Q I ro ri h
  obtain ⟨p, xs, k, z, rfl, rfl, hq, he, q⟩ := h
  cases ro
  obtain ⟨t, rfl⟩ := ri
  obtain ⟨its, r, pl, hz⟩ := I.list hq
  obtain ⟨j, h1, h2, h3, h4, h5⟩ := atI_get he
  obtain ⟨u, eu, ru⟩ := r.get h2
  have hl := r.length
  have hn := line63
  have fin : EP X pins σ Q u s := ⟨z, H, I, ru, q⟩
  by_cases h0 : 0 ≤ k
  · have hj : k.toNat = j := by
      rw [seqIndex_of h0 h5] at h1
      exact Option.some.inj h1
    exact wpAny_getItem_list pl.isList h0 (by omega) (by rw [hj]; simpa using eu) fin
  · have hj : (k + (its.toArray.size : Int)).toNat = j := by
      rw [seqIndex_neg (by omega) h4] at h1
      rw [List.size_toArray, ← hl]
      exact Option.some.inj h1
    exact wpAny_getItem_list_neg pl.isList (by omega) (by rw [List.size_toArray, ← hl]; exact h4) (by omega) (by rw [hj]; simpa using eu) fin
/-- the owned list of a name is written -/
theorem Wf.put {C : Cf} {A0 : As} {F : Fo} {env : Env} {σ : L2.St} {H : Hp} {i : Nat} {p : Addr} {c c' : D} {vs : List V} {ds : List D} (w : Wf C.K C.T A0 C.P F H σ env) (e : env[i]? = some (some (.own c))) (hp : σ[i]? = some (some (.ref p))) (hc' : c' = .lst ds)
    (hv : Pus C.K (cup A0 (ow F)) H vs ds) : Wf C.K C.T A0 C.P F (upd H p (.lst vs)) σ (env.set i (some (.own c'))) ∧ Tr (ow F) H (ow F) (upd H p (.lst vs)) := by
  subst hc'
  obtain ⟨v, h1, h2⟩ := w.slot i _ e
  rw [hp] at h1
  cases h1
  have hi : i < env.length := (List.getElem?_eq_some_iff.mp e).1
  have hF : F i = [p] := by
    obtain ⟨q, e1, e2⟩ := h2.own_ref rfl
    cases e1
    exact e2
  have hpF : ow F p := ⟨i, by rw [hF]; simp⟩
  have t : Tr (ow F) H (ow F) (upd H p (.lst vs)) := Tr.write hpF
  refine ⟨⟨by rw [List.length_set]; exact w.len, fun j d e' => ?_, fun j h => ?_, w.disj, w.out, fun b z => t.dom b (w.dom b z), ?_, w.pins⟩, t⟩
  · by_cases hj : j = i
    · subst hj
      rw [List.getElem?_set_self hi] at e'
      cases e'
      rw [hF]
      exact ⟨_, hp, .lst upd_same (hv.stay t.stays)⟩
    · rw [List.getElem?_set_ne (Ne.symm hj)] at e'
      obtain ⟨u, g1, g2⟩ := w.slot j d e'
      refine ⟨u, g1, g2.stay t.stays fun b hb o q => ?_⟩
      rw [upd_ne (fun z => hj (w.disj j i b hb (by rw [hF, z]; simp)))]
      exact q
  · by_cases hj : j = i
    · subst hj
      have := h _ (by rw [List.getElem?_set_self hi])
      cases this
    · exact w.emp j fun d' e' => h d' (by rw [List.getElem?_set_ne (Ne.symm hj)]; exact e')
  · refine fun q hq => ?_
    obtain ⟨qs, a1, a2, a3⟩ := w.tabs q hq
    obtain ⟨xs, hx⟩ := w.odom p hpF
    have np : ∀ b o, H b = some o → (∀ xs, o ≠ .lst xs) → b ≠ p := fun b o e n z => by rw [z, hx] at e; cases e; exact n _ rfl
    refine ⟨qs, by rw [upd_ne (np _ _ a1 fun xs z => by cases z)]; exact a1, a2, fun ps cv hcv => ?_⟩
    obtain ⟨c, e1, e2⟩ := a3 ps cv hcv
    exact ⟨c, e1, by rw [upd_ne (np _ _ e2 fun xs z => by unfold LamX.CodeO at z; cases z)]; exact e2⟩
theorem own_list {C : Cf} {A0 : As} {F : Fo} {env : Env} {σ : L2.St} {H : Hp} {i : Nat} {ds : List D} (w : Wf C.K C.T A0 C.P F H σ env) (e : env[i]? = some (some (.own (.lst ds)))) : ∃ p vs, σ[i]? = some (some (.ref p)) ∧ H p = some (.lst vs) ∧ Pus C.K (cup A0 (ow F)) H vs ds := by
  obtain ⟨v, h1, h2⟩ := w.slot i _ e
  generalize F i = S at h2
  cases h2 with
  | pu h => cases h
  | lst h hs => exact ⟨_, _, h1, h, hs⟩
theorem tX_own {C : Cf} {α : Type} {m : List D → M α} {kk : α → Env → Option Out} {A0 O : As} {i : Nat} {env : Env} {H : Hp} {Dn : Ends} (q : tAtX C (run (ownL i m) kk) A0 O env H Dn) : (∃ ds, env[i]? = some (some (.own (.lst ds)))) ∧ ∀ ds, env[i]? = some (some (.own (.lst ds))) → tAtX C (run (m ds) kk) A0 O env H Dn := by
  obtain ⟨u, e, p⟩ := q
  have h : ∃ ds r, env[i]? = some (some (.own (.lst ds))) ∧ m ds env = some r := by
    rcases run_cases e with ⟨c, x, env3, h, _⟩ | ⟨a, env3, h, _⟩
    all_goals
      unfold ownL at h
      split at h
      · rename_i ds hds; exact ⟨ds, _, hds, h⟩
      · cases h
  obtain ⟨ds, r, hds, _⟩ := h
  refine ⟨⟨ds, hds⟩, fun ds' h' => ⟨u, ?_, p⟩⟩
  rw [hds] at h'
  cases h'
  rw [← e]
  unfold run ownL
  rw [hds]
theorem setAt_ok {i : Nat} {y x : D} {env : Env} {r : Res Unit} (h : setAt i y x env = some r) : ∃ ds n j, env[i]? = some (some (.own (.lst ds))) ∧ y = .int n ∧ ixN ds.length n = some j ∧ r = .ok () (env.set i (some (.own (.lst (ds.set j x))))) := by
  unfold setAt at h
  split at h
  · rename_i ds n hds
    cases hj : ixN ds.length n with
    | none => rw [hj] at h; cases h
    | some j => rw [hj] at h; cases h; exact ⟨ds, n, j, hds, rfl, hj, rfl⟩
  · cases h
theorem setAt_exn {i : Nat} {y x : D} {env env' : Env} {c : Nat} {d : D} (h : setAt i y x env = some (.exn c d env')) : False := by
  obtain ⟨_, _, _, _, _, _, h⟩ := setAt_ok h
  cases h
theorem getAt_some {ds : List D} {y : D} {r : D × Nat} (h : getAt ds y = some r) : ∃ n j d, y = .int n ∧ ixN ds.length n = some j ∧ ds[j]? = some d ∧ r = (d, j) := by
  cases y <;> simp only [getAt] at h <;> first | cases h; done | skip
  obtain ⟨j, hj, h⟩ := Option.bind_eq_some_iff.mp h
  obtain ⟨d, hd, h⟩ := Option.map_eq_some_iff.mp h
  exact ⟨_, j, d, rfl, hj, hd, h.symm⟩
theorem ds_setIx {i : Nat} {x : Str} {k : Expr} {px ps : Pos} {mk me : M D} (hN : X.N[i]? = some x) (hv : Vis X.env.scope x) (hd : (x == ("__debug__" : Str)) = false) (hcd : (x == ("__classdict__" : Str)) = false) (he : PE X e (tO (cf X B) me)) (hk : PE X k (tO (cf X B) mk))
    (hs : swapsWithSole [.Subscript (.Name x px) k ps] e pos.line X.env = pure false) (ha : ∀ v, assign (.Subscript (.Name x px) k ps) X.env v = (do
      let ov ← holding [v] (eval (.Name x px) X.env)
      let iv ← holding [v, ov] (eval k X.env)
      standAt ps
      holding [v, ov, iv] (setItem ov iv v)
      release [v, ov, iv] [])) : PS X (.Assign [.Subscript (.Name x px) k ps] e pos) (tX (cf X B) (run (setIxF i mk me) nxt)) := by
  refine (ps_asg he (pg_sub (pe_var hN hv hd hcd) hk set_list ha) hs rfl rfl).mono fun D σ H ⟨A0, F, env, w, q⟩ => ?_
  unfold setIxF at q
  rw [run_bind] at q
  refine tX_runF w q fun v H1 F1 env1 d t1 w1 pu q1 => ?_
  obtain ⟨⟨ds0, h0⟩, q1⟩ := tX_own q1
  have q1 := q1 ds0 h0
  obtain ⟨p0, vs0, hs0, _, _⟩ := own_list w1 h0
  refine ⟨_, hs0, ?_⟩
  rw [run_bind] at q1
  refine tX_runF w1 q1 fun y H2 F2 env2 dk t2 w2 puk q2 => ?_
  obtain ⟨u, e, p⟩ := q2
  rcases run_cases e with ⟨c, x, env3, h, _⟩ | ⟨a, env3, h, e1⟩
  · exact (setAt_exn h).elim
  · obtain ⟨ds, n, j, hds, rfl, hj, h⟩ := setAt_ok h
    cases h
    cases e1
    obtain ⟨p1, vs, hs, hH, pus⟩ := own_list w2 hds
    rw [hs0] at hs
    cases hs
    cases puk
    obtain ⟨w3, t3⟩ := w2.put hds hs0 rfl (pus.set j (pu.stay t2.stays))
    refine ⟨p0, vs, n, j, rfl, rfl, hH, by rw [pus.length]; exact hj, ?_⟩
    exact p σ _ F2 t3 w3
theorem ds_augIx {i : Nat} {x : Str} {k : Expr} {op : Operator} {o : Op2} {px ps : Pos} {mk me : M D} (hN : X.N[i]? = some x) (hv : Vis X.env.scope x) (hd : (x == ("__debug__" : Str)) = false) (hcd : (x == ("__classdict__" : Str)) = false)
    (ho : (match op with | .Add => some Op2.add | .Sub => some .sub | _ => none) = some o) (he : PE X e (tO (cf X B) me)) (hk : PE X k (tO (cf X B) mk))
    (ha : ∀ ov iv new, augStore k ov iv new = (do holding [new, ov, iv] (setItem ov iv new); release [new, ov, iv] []; pure .next)) : PS X (.AugAssign (.Subscript (.Name x px) k ps) op e pos) (tX (cf X B) (run (augIxF i mk o me) nxt)) := by
  obtain ⟨f, hfo⟩ : ∃ f, opI o = some f := by cases op <;> cases ho <;> exact ⟨_, rfl⟩
  refine (ps_augS (pe_var hN hv hd hcd) hk rIxL_get he (ipI_of ho hfo) set_list ha).mono fun D σ H ⟨A0, F, env, w, q⟩ => ?_
  unfold augIxF at q
  obtain ⟨⟨ds0, h0⟩, q⟩ := tX_own q
  have q := q ds0 h0
  obtain ⟨p0, vs0, hs0, _, _⟩ := own_list w h0
  refine ⟨_, hs0, ?_⟩
  rw [run_bind] at q
  refine tX_runF w q fun y H1 F1 env1 dk t1 w1 puk q1 => ?_
  obtain ⟨⟨ds1, h1⟩, q1⟩ := tX_own q1
  have q1 := q1 ds1 h1
  obtain ⟨p1, vs1, hs1, hH1, pus1⟩ := own_list w1 h1
  rw [hs0] at hs1
  cases hs1
  obtain ⟨u, e, p⟩ := q1
  rw [run_bind] at e
  rcases run_cases e with ⟨c, x, env3, h, _⟩ | ⟨old, env3, h, e1⟩
  · exact (opt_exn h).elim
  · obtain ⟨hg, he'⟩ := opt_ok h
    rw [he'] at e1
    obtain ⟨n, j, d0, rfl, hj, hd0, rfl⟩ := getAt_some hg
    cases puk
    obtain ⟨v0, hv0, pv0⟩ := pus1.get hd0
    refine ⟨p0, vs1, n, v0, rfl, rfl, .of hH1, by unfold atI; rw [pus1.length, hj]; exact hv0, ?_⟩
    rw [run_bind] at e1
    refine tX_runF w1 ⟨u, e1, p⟩ fun z H2 F2 env2 d2 t2 w2 pu2 q2 => ?_
    obtain ⟨u2, e2, p2⟩ := q2
    rw [run_bind] at e2
    rcases run_cases e2 with ⟨c, x, env3, h, _⟩ | ⟨r, env3, h, e3⟩
    · exact (opt_exn h).elim
    · obtain ⟨hr, he'⟩ := opt_ok h
      rw [he'] at e3
      obtain ⟨a, b, f', rfl, rfl, hf', rfl⟩ := augD_some hr
      rw [hfo] at hf'
      cases hf'
      cases pv0
      cases pu2
      rcases run_cases e3 with ⟨c, x, env3, h, _⟩ | ⟨a', env3, h, e4⟩
      · exact (setAt_exn h).elim
      · obtain ⟨ds, n', j', hds, hn', hj', h⟩ := setAt_ok h
        cases hn'
        cases h
        cases e4
        obtain ⟨p1, vs, hs, hH, pus⟩ := own_list w2 hds
        rw [hs0] at hs
        cases hs
        obtain ⟨w3, t3⟩ := w2.put hds hs0 rfl (pus.set j' (.int (f a b)))
        refine ⟨a, b, rfl, rfl, p0, vs, n, j', rfl, rfl, hH, by rw [pus.length]; exact hj', ?_⟩
        exact p2 σ _ F2 t3 w3
end
end Dz

set_option Elab.async false
set_option linter.all false
set_option maxRecDepth 100000
set_option maxHeartbeats 2000000
/-! Dz, part 10: methods that change, raise, while, for, comprehensions. -/
namespace Dz
open PySem PySem.Spec PyProof.Rows L2
section
variable {X : Cx} {B : Bs} {Γ : Sig} {pos : Pos} {e a b : Expr}
/-! ### x.append(e) -/
theorem mutAt_ok {m : Mu} {i : Nat} {ds : List D} {env : Env} {r : Res D} (h : mutAt m i ds env = some r) : ∃ c d c', env[i]? = some (some (.own c)) ∧ mutD m c ds = some (d, c') ∧ r = .ok d (env.set i (some (.own c'))) := by
  unfold mutAt at h
  split at h
  · rename_i c hc
    obtain ⟨⟨d, c'⟩, h1, h2⟩ := Option.map_eq_some_iff.mp h
    exact ⟨c, d, c', hc, h1, h2.symm⟩
  · cases h
theorem ds_append {i : Nat} {x : Str} {px ap cp : Pos} {m : M D} (hN : X.N[i]? = some x) (hv : Vis X.env.scope x) (hd : (x == ("__debug__" : Str)) = false) (hcd : (x == ("__classdict__" : Str)) = false) (he : PE X e (tO (cf X B) m)) (hst : noStar e = true) (hline : (ap.endLine == cp.line) = true) :
    PS X (.Expr (.Call (.Attribute (.Name x px) "append" ap) [e] [] cp) pos) (tX (cf X B) (run (mutF .append i (M.bind m fun d => M.bind (M.ret []) fun ds => M.ret (d.fz :: ds))) fun _ env => some (.nx env))) := by
  have s1 := star1 (es := []) (env := X.env) hst
  refine (ps_expr (pe_bm PySem.F.plainAttrs_list PySem.F.slot_list_append PySem.F.type_list_append mt_append (pe_var hN hv hd hcd) (da_cons he da_nil s1) rfl (by rw [s1]; rfl) hline s1 (by rfl)) rfl).mono fun Dn σ H ⟨A0, F, env, w, q⟩ => ?_
  unfold mutF at q
  obtain ⟨⟨ds0, h0⟩, q⟩ := tX_own q
  have q := q ds0 h0
  obtain ⟨p0, vs0, hs0, hH0, pus0⟩ := own_list w h0
  refine ⟨_, hs0, .inl ⟨rfl, vs0, .of hH0⟩, ?_⟩
  rw [run_bind] at q
  refine tX_run (J := jPus X.K) w q fun vs H1 F1 env1 ds t1 w1 j q1 => ?_
  have j : Pus X.K (cup A0 (ow F1)) H1 vs ds := j
  obtain ⟨u, e, p⟩ := q1
  rcases run_cases e with ⟨c, x, env3, h, _⟩ | ⟨r, env3, h, e1⟩
  · obtain ⟨_, _, _, _, _, h⟩ := mutAt_ok h
    cases h
  · obtain ⟨c, d, c', hc, hm, h⟩ := mutAt_ok h
    cases h
    cases e1
    obtain ⟨p1, vs1, ls, hs1, rfl, hH1, pus1⟩ : ∃ p vs ls, σ[i]? = some (some (.ref p)) ∧ c = .lst ls ∧ H1 p = some (.lst vs) ∧ Pus X.K (cup A0 (ow F1)) H1 vs ls := by
      obtain ⟨v, g1, g2⟩ := w1.slot i _ hc
      generalize F1 i = S at g2
      cases g2 with
      | pu h => cases h
      | lst h hs => exact ⟨_, _, _, g1, rfl, h, hs⟩
    rw [hs0] at hs1
    cases hs1
    cases j with
    | nil => cases hm
    | cons pv js =>
      cases js with
      | cons _ _ => cases hm
      | nil =>
        simp only [mutD] at hm
        split at hm
        · rename_i hz
          cases hm
          rw [lim_eq] at hz
          obtain ⟨w3, t3⟩ := w1.put hc hs0 rfl (pus1.append (.cons pv .nil))
          exact ⟨p0, vs1, _, rfl, rfl, hH1, by rw [pus1.length]; exact hz, p σ _ F1 t3 w3⟩
        · cases hm
/-! ### raise -/
/-- what making an exception of the class x asks: its one field f holds the argument -/
def MkX (X : Cx) (C : Addr) (f : Str) (x : Str) : Prop := ∀ (e : Expr) (p pos : Pos) (te : TE), noStar e = true → PE X e te → PMk X (.Call (.Name x p) [e] [] pos) (fun σ H Q => te σ H fun v H1 => ∀ dx, H1 dx = none → Q (.ref C) (some dx) (upd H1 dx (.xd [(f, v)])))
theorem ds_raise {c : Nat} {C : Addr} {f x : Str} {p p2 : Pos} {m : M D} (hc : X.calm = true) (tk : Takes X B.W) (hec : B.ec c = some (C, f)) (hM : MkX X C f x) (hst : noStar e = true) (he : PE X e (tO (cf X B) m)) :
    PS X (.Raise (some (.Call (.Name x p) [e] [] p2)) none pos) (tX (cf X B) (run m fun d env => if Γ.exc c then some (.exn c d.fz env) else none)) := by
  refine (ps_raise hc tk (hM e p p2 _ hst he)).mono fun D σ H ⟨A0, F, env, w, q⟩ => ?_
  refine tX_runF w q fun v H1 F1 env1 d t w1 pu q1 => ?_
  intro dx hdx
  obtain ⟨u, e, ps⟩ := q1
  split at e
  · cases e
    exact ps σ _ F1 _ _ (Tr.new hdx) (w1.new hdx) ⟨C, f, dx, v, hec, rfl, rfl, upd_same, pu.stay (Tr.new hdx).stays⟩
  · cases e

/-! ### while -/
theorem ds_while {c : Expr} {body : List Stmt} {mc : M Bool} {mb : Env → Option Out} {n : Nat} (hp : PassesOwn (model X.prog X.w) X.A X.env X.xe) (hc : PT X c (tTst (cf X B) mc)) (hb : PSs X body (tX (cf X B) mb)) :
    PS X (.While c body [] pos) (tX (cf X B) (whileGo mc mb n)) := by
  refine (ps_while hp hc hb).mono fun D σ H h => ?_
  refine ⟨fun m σ H => tX (cf X B) (whileGo mc mb m) D σ H, ⟨n, h⟩, ?_⟩
  rintro m σ H ⟨A0, F, env, w, u, e, p⟩
  cases m with
  | zero => cases e
  | succ m =>
    refine ⟨A0, F, env, w, ?_⟩
    unfold whileGo at e
    cases hm : mc env with
    | none => rw [hm] at e; cases e
    | some r =>
      rw [hm] at e
      refine ⟨r, hm, ?_⟩
      cases r with
      | exn c d env' =>
        cases e
        exact exn_post p
      | ok k env1 =>
        intro b H1 F1 t w1 j
        obtain rfl : k = b := j
        have p := p.trans t
        cases k with
        | false =>
          cases e
          exact p σ H1 F1 Tr.refl w1
        | true =>
          refine ⟨fun σ' H' => tX (cf X B) (whileGo mc mb m) D σ' H', fun σ' H' q => ⟨m, Nat.lt_succ_self _, q⟩, A0, F1, env1, w1, ?_⟩
          simp only at e
          cases hb : mb env1 with
          | none => rw [hb] at e; cases e
          | some o =>
            rw [hb] at e
            refine ⟨o, hb, ?_⟩
            cases o with
            | nx env2 => exact fun σ2 H2 F2 t2 w2 => ⟨A0, F2, env2, w2, u, e, p.trans t2⟩
            | ct env2 => exact fun σ2 H2 F2 t2 w2 => ⟨A0, F2, env2, w2, u, e, p.trans t2⟩
            | brk env2 => cases e; exact p
            | ret d env2 => cases e; exact p
            | exn c d env2 => cases e; exact p

/-! ### what is walked -/
/-- J gives ds, one after the other, while what is not owned stays as it was at H1 -/
def IterOk (K : PySem.W.Frag) (Av : As) (J : L2.It) (ds : List D) (H1 : Hp) : Prop := ∀ Av' H, Stays Av H1 Av' H → (∀ b, Av' b → H b ≠ none) → (∀ i, i < ds.length → J.go i H) ∧ J.stop ds.length H ∧
  ∀ (i : Nat) d x H', ds[i]? = some d → J.yld i H x H' → (∀ b o, H b = some o → H' b = some o) ∧ Pu K Av' H' x d
def jIt (K : PySem.W.Frag) : Rel (List D) L2.It := fun ds _ Av H J => IterOk K Av J ds H
theorem iter_list {K : PySem.W.Frag} {Av : As} {H : Hp} {a : Addr} {xs : List V} {ds : List D} (h : AtL K Av H a xs) (hs : Pus K Av H xs ds) : IterOk K Av (Itl K a) ds H := fun Av' H' st _ => by
  have h' := (st.l h).sq
  refine ⟨fun i hi => ⟨xs, xs[i]'(by rw [hs.length]; exact hi), h', by simp [hs.length, hi]⟩, ⟨xs, h', by rw [hs.length]; exact Nat.le_refl _⟩, fun i d x H2 hd y => ?_⟩
  obtain ⟨rfl, y⟩ := y
  obtain ⟨v, hv, pv⟩ := hs.get hd
  have := y xs h'
  rw [hv] at this
  cases this
  exact ⟨fun _ _ q => q, pv.stay st⟩
theorem iter_tup {K : PySem.W.Frag} {Av : As} {H : Hp} {a : Addr} {xs : List V} {ds : List D} (h : AtT K Av H a xs) (hs : Pus K Av H xs ds) : IterOk K Av (Itt K a) ds H := fun Av' H' st _ => by
  have h' := (st.t h).sq
  refine ⟨fun i hi => ⟨xs, xs[i]'(by rw [hs.length]; exact hi), h', by simp [hs.length, hi]⟩, ⟨xs, h', by rw [hs.length]; exact Nat.le_refl _⟩, fun i d x H2 hd y => ?_⟩
  obtain ⟨rfl, y⟩ := y
  obtain ⟨v, hv, pv⟩ := hs.get hd
  have := y xs h'
  rw [hv] at this
  cases this
  exact ⟨fun _ _ q => q, pv.stay st⟩
theorem iter_range {K : PySem.W.Frag} {Av : As} {H : Hp} {lo : Int} {n : Nat} : IterOk K Av (Itr lo n) ((List.range n).map fun (k : Nat) => D.int (lo + k)) H := fun Av' H' st _ => by
  refine ⟨fun i hi => (by simpa using hi : i < n), (by simp : n ≤ _), fun i d x H2 hd y => ?_⟩
  obtain ⟨rfl, rfl⟩ := y
  rw [List.getElem?_map] at hd
  cases hr : (List.range n)[i]? with
  | none => rw [hr] at hd; cases hd
  | some k =>
    rw [hr] at hd
    cases hd
    have : k = i := by
      have := List.getElem?_eq_some_iff.mp hr
      obtain ⟨h1, h2⟩ := this
      simpa using h2.symm
    subst this
    exact ⟨fun _ _ q => q, .int _⟩
abbrev tI (C : Cf) (m : M (List D)) : TI := tG C (.of C (jIt C.K)) m
theorem _root_.L2.PI.mono {tg it : Expr} {t t' : TI} (h : PI X tg it t) (k : ∀ σ H R, t' σ H R → t σ H R) : PI X tg it t' := ⟨fun pins s σ H R I q => h.run pins s σ H R I (k σ H R q)⟩
/-- a list or a tuple, whichever it is -/
theorem pi_either {tg l : Expr} {tl : TE} (hl : PE X l tl) : PI X tg l (fun σ H R => tl σ H fun x H1 => ∃ a, x = .ref a ∧ (((∃ xs, SqL X.K H1 a xs) ∧ R (Itl X.K a) H1) ∨ ((∃ xs, SqT X.K H1 a xs) ∧ R (Itt X.K a) H1))) := by
  refine ⟨fun pins s σ H R I h => thn (hl.run pins s σ H _ I h) fun v s1 ⟨x, H1, I1, r1, a, ex, q⟩ => ?_⟩
  subst ex
  cases r1
  have fp : ∀ b, b ∈ [s1.heap.objs.size] → FpOk X pins H1 b := fun b hb => by
    rw [List.mem_singleton.mp hb]
    exact I1.fpOk (Nat.le_refl _) I1.fresh
  rcases q with ⟨⟨xs, hq⟩, q⟩ | ⟨⟨xs, hq⟩, q⟩
  · obtain ⟨its, rv, pl, _⟩ := I1.list hq
    exact wpAny_pyIter_list pl.isList ⟨_, [s1.heap.objs.size], _, _, H1, rfl, I1.kept (t' := s1.toks) fun b o e => Heap.get?_push_of_some _ e, turn_list a _, ⟨_, Heap.get?_push_size _ rfl, rfl, rfl⟩, fp, q⟩
  · obtain ⟨its, rv, pl, _⟩ := I1.tuple hq
    exact wpAny_pyIter_tuple (show s1.heap.IsTuple a its.toArray from pl) ⟨_, [s1.heap.objs.size], _, _, H1, rfl, I1.kept (t' := s1.toks) fun b o e => Heap.get?_push_of_some _ e, turn_tuple a _, ⟨_, Heap.get?_push_size _ rfl, rfl, rfl⟩, fp, q⟩
theorem di_e {tg : Expr} {m : M D} (he : PE X e (tO (cf X B) m)) : PI X tg e (tI (cf X B) (M.bind m fun d => M.opt (itemsD d.fz))) := by
  refine (pi_either he).mono fun σ H R ⟨A0, F, env, w, q⟩ => tO_fz w q fun v H1 F1 env1 d t w1 pu q1 => ?_
  obtain ⟨ds, e, p⟩ := tAt_opt q1
  generalize d.fz = d' at pu e
  cases d' <;> simp only [itemsD] at e <;> first | cases e; done | skip
  · cases e
    cases pu with
    | tup ht hs => exact ⟨_, rfl, .inr ⟨⟨_, ht.sq⟩, p _ H1 F1 Tr.refl w1 (iter_tup ht hs)⟩⟩
  · cases e
    cases pu with
    | lst ht hs => exact ⟨_, rfl, .inl ⟨⟨_, ht.sq⟩, p _ H1 F1 Tr.refl w1 (iter_list ht hs)⟩⟩
theorem di_range1 {tg : Expr} {p : Pos} {m : M D} (hg : Gl X "range") (hm : X.mg "range" = none) (hst : noStar a = true) (ha : PE X a (tO (cf X B) m)) : PI X tg (.Call (.Name "range" p) [a] [] pos) (tI (cf X B) (range1F m)) := by
  have s1 := star1 (es := []) (env := X.env) hst
  refine (pi_range1 hg hm (pa_cons ha pa_nil s1) s1).mono fun σ H R ⟨A0, F, env, w, q⟩ => tO_fz w q fun v H1 F1 env1 d t w1 pu q1 => ?_
  cases d <;> first | exact (tAt_fail q1).elim | skip
  simp only at q1
  split at q1
  · rename_i n hn
    cases pu
    refine ⟨n, rfl, hn.1, hn.2, ?_⟩
    refine tAt_ret q1 _ H1 F1 Tr.refl w1 ?_
    have := iter_range (K := X.K) (Av := cup A0 (ow F1)) (H := H1) (lo := 0) (n := n.toNat)
    simp only [Int.zero_add] at this
    exact this
  · exact (tAt_fail q1).elim
theorem di_range2 {tg : Expr} {p : Pos} {m m2 : M D} (hg : Gl X "range") (hm : X.mg "range" = none) (hst : noStar a = true ∧ noStar b = true) (ha : PE X a (tO (cf X B) m)) (hb : PE X b (tO (cf X B) m2)) : PI X tg (.Call (.Name "range" p) [a, b] [] pos) (tI (cf X B) (range2F m m2)) := by
  have s1 := star1 (es := [b]) (env := X.env) hst.1
  have s2 := star1 (es := []) (env := X.env) hst.2
  refine (pi_range2 hg hm (pa_cons ha (pa_cons hb pa_nil s2) s1) (by rw [s1, s2]; rfl) s2).mono fun σ H R ⟨A0, F, env, w, q⟩ => tO_fz w q fun v H1 F1 env1 d t w1 pu q1 => tO_fz w1 q1 fun v2 H2 F2 env2 d2 t2 w2 pu2 q2 => ?_
  cases d <;> cases d2 <;> first | exact (tAt_fail q2).elim | skip
  simp only at q2
  split at q2
  · rename_i l h hn
    cases pu
    cases pu2
    exact ⟨l, h, rfl, hn, tAt_ret q2 _ H2 F2 Tr.refl w2 iter_range⟩
  · exact (tAt_fail q2).elim

/-! ### for -/
theorem ds_for {tg it : Expr} {body : List Stmt} {t : T} {mi : M (List D)} {mb : Env → Option Out} (hp : PassesOwn (model X.prog X.w) X.A X.env X.xe) (hc : X.calm = true) (hi : PI X tg it (tI (cf X B) mi)) (hg : PG X tg (gT (cf X B) Γ.pin t)) (hb : PSs X body (tX (cf X B) mb))
    (hx : ∀ d env r, asT Γ.pin t d env = some r → ∃ env', r = .ok () env') (hs : ∀ x, foldedSetIterable it X.env x = pure x) : PS X (.For tg it body [] pos) (tX (cf X B) (run mi fun ds env => forGo (asT Γ.pin t) mb ds env)) := by
  refine (ps_for hp hc hi hg hb hs).mono fun Dn σ H ⟨A0, F, env, w, q⟩ => ?_
  refine tX_run (J := jIt X.K) w q fun J H1 F1 env1 ds t1 w1 j q1 => ?_
  have j : IterOk X.K (cup A0 (ow F1)) J ds H1 := j
  refine ⟨fun i m σ H => m = ds.length - i ∧ i ≤ ds.length ∧ ∃ F env, Wf X.K B.T A0 B.P F H σ env ∧ Stays (cup A0 (ow F1)) H1 (cup A0 (ow F)) H ∧ tAtX (cf X B) (forGo (asT Γ.pin t) mb (ds.drop i)) A0 (ow F) env H Dn,
    ⟨ds.length, by simp, Nat.zero_le _, F1, env1, w1, stays_less fun _ z => z, q1⟩, ?_⟩
  rintro i m σ2 H2 ⟨rfl, hi, F2, env2, w2, st, u, e, p⟩
  have dom : ∀ b, cup A0 (ow F2) b → H2 b ≠ none := fun b z => z.elim (w2.dom b) fun z => by
    obtain ⟨xs, q⟩ := w2.odom b z
    rw [q]; simp
  obtain ⟨go, stop, yld⟩ := j _ H2 st dom
  by_cases hlt : i < ds.length
  · refine .inr ⟨go i hlt, ?_⟩
    rw [List.drop_eq_getElem_cons hlt] at e
    unfold forGo at e
    refine ⟨fun σ' H' => ∃ F env, Wf X.K B.T A0 B.P F H' σ' env ∧ Stays (cup A0 (ow F1)) H1 (cup A0 (ow F)) H' ∧ tAtX (cf X B) (forGo (asT Γ.pin t) mb (ds.drop (i + 1))) A0 (ow F) env H' Dn, fun σ' H' q => ⟨ds.length - (i + 1), by omega, rfl, hlt, q⟩, ?_⟩
    intro x H3 y
    obtain ⟨ext, pu⟩ := yld i ds[i] x H3 (by simp [hlt]) y
    have dm : ∀ b, H2 b ≠ none → H3 b ≠ none := fun b h z => by
      cases q : H2 b with
      | none => exact h q
      | some o => rw [ext b o q] at z; cases z
    have w3 : Wf X.K B.T A0 B.P F2 H3 σ2 env2 := w2.turn (fun b o q _ => ext b o q) dm (w2.tabs.ext ext)
    have t3 : Tr (ow F2) H2 (ow F2) H3 := ⟨fun b o q _ _ => ext b o q, dm, fun b z => .inl z⟩
    cases hm : asT Γ.pin t ds[i] env2 with
    | none => rw [hm] at e; cases e
    | some r =>
      obtain ⟨env3, rfl⟩ := hx _ _ _ hm
      rw [hm] at e
      simp only at e
      refine ⟨A0, F2, env2, _, env3, w3, pu, hm, fun σ4 F4 hF4 w4 _ => ⟨A0, F4, env3, w4, ?_⟩⟩
      have t4 : Tr (ow F2) H2 (ow F4) H3 := t3.trans (Tr.refl.less hF4)
      have st4 : Stays (cup A0 (ow F1)) H1 (cup A0 (ow F4)) H3 := st.trans t4.stays
      cases hb : mb env3 with
      | none => rw [hb] at e; cases e
      | some o =>
        rw [hb] at e
        refine ⟨o, hb, ?_⟩
        have p := p.trans t4
        cases o with
        | nx env5 => exact fun σ5 H5 F5 t5 w5 => ⟨F5, env5, w5, st4.trans t5.stays, u, e, p.trans t5⟩
        | ct env5 => exact fun σ5 H5 F5 t5 w5 => ⟨F5, env5, w5, st4.trans t5.stays, u, e, p.trans t5⟩
        | brk env5 => cases e; exact p
        | ret d env5 => cases e; exact p
        | exn c d env5 => cases e; exact p
  · have ei : i = ds.length := by omega
    subst ei
    rw [List.drop_length] at e
    cases e
    exact .inl ⟨stop, p σ2 H2 F2 Tr.refl w2⟩
end
end Dz

set_option Elab.async false
set_option linter.all false
set_option maxRecDepth 100000
set_option maxHeartbeats 2000000
/-! Dz, part 11: comprehensions. -/
namespace Dz
open PySem PySem.Spec PyProof.Rows L2
section
variable {C : Cf} {A0 : As} {F : Fo} {env env0 : Env} {σ : L2.St} {H : Hp} {vs : List Nat}
theorem wipeE_len : ∀ (vs : List Nat) (env : Env), (wipeE env vs).length = env.length
  | [], _ => rfl
  | i :: r, env => by
    show ((wipeE env r).set i none).length = _
    rw [List.length_set, wipeE_len r]
theorem wipe_at : ∀ (vs : List Nat) (σ : L2.St) (i : Nat), i ∉ vs → (wipe σ vs)[i]? = σ[i]?
  | [], _, _, _ => rfl
  | j :: r, σ, i, h => by
    simp only [List.mem_cons, not_or] at h
    show ((wipe σ r).set j none)[i]? = _
    rw [List.getElem?_set_ne (Ne.symm h.1), wipe_at r σ i h.2]
theorem wipeE_at : ∀ (vs : List Nat) (env : Env) (i : Nat), i ∉ vs → (wipeE env vs)[i]? = env[i]?
  | [], _, _, _ => rfl
  | j :: r, env, i, h => by
    simp only [List.mem_cons, not_or] at h
    show ((wipeE env r).set j none)[i]? = _
    rw [List.getElem?_set_ne (Ne.symm h.1), wipeE_at r env i h.2]
theorem wipe_in : ∀ (vs : List Nat) (σ : L2.St) (i : Nat), i ∈ vs → i < σ.length → (wipe σ vs)[i]? = some none
  | [], _, _, h, _ => by cases h
  | j :: r, σ, i, h, hl => by
    show ((wipe σ r).set j none)[i]? = _
    by_cases hj : j = i
    · subst hj
      rw [List.getElem?_set_self (by rw [wipe_length]; exact hl)]
    · rw [List.getElem?_set_ne hj]
      exact wipe_in r σ i ((List.mem_cons.mp h).resolve_left (Ne.symm hj)) hl
theorem wipeE_in : ∀ (vs : List Nat) (env : Env) (i : Nat), i ∈ vs → i < env.length → (wipeE env vs)[i]? = some none
  | [], _, _, h, _ => by cases h
  | j :: r, env, i, h, hl => by
    show ((wipeE env r).set j none)[i]? = _
    by_cases hj : j = i
    · subst hj
      rw [List.getElem?_set_self (by rw [wipeE_len]; exact hl)]
    · rw [List.getElem?_set_ne hj]
      exact wipeE_in r env i ((List.mem_cons.mp h).resolve_left (Ne.symm hj)) hl
/-- outside of vs two rows of names agree: then they do when vs are wiped -/
theorem wipe_eq {σ' : L2.St} (hl : σ'.length = σ.length) (h : ∀ i, i ∉ vs → σ'[i]? = σ[i]?) : wipe σ' vs = wipe σ vs := by
  apply List.ext_getElem?
  intro i
  by_cases hi : i ∈ vs
  · by_cases hlt : i < σ.length
    · rw [wipe_in _ _ _ hi hlt, wipe_in _ _ _ hi (by rw [hl]; exact hlt)]
    · rw [List.getElem?_eq_none (by rw [wipe_length, hl]; omega), List.getElem?_eq_none (by rw [wipe_length]; omega)]
  · rw [wipe_at _ _ _ hi, wipe_at _ _ _ hi, h i hi]
def dropV (F : Fo) (vs : List Nat) : Fo := fun i => if i ∈ vs then [] else F i
theorem dropV_le : ∀ b, ow (dropV F vs) b → ow F b := fun b ⟨j, h⟩ => by
  unfold dropV at h
  split at h
  · cases h
  · exact ⟨j, h⟩
/-- names are forgotten -/
theorem Wf.wipe (w : Wf C.K C.T A0 C.P F H σ env) (hp : ∀ i ∈ vs, C.P i = none) : Wf C.K C.T A0 C.P (dropV F vs) H (wipe σ vs) (wipeE env vs) := by
  have st : Stays (cup A0 (ow F)) H (cup A0 (ow (dropV F vs))) H := stays_less fun b z => z.imp id (dropV_le b)
  refine ⟨by rw [wipeE_len, wipe_length]; exact w.len, fun i d e => ?_, fun i h => ?_, fun i j b h1 h2 => ?_, fun b z => w.out b (dropV_le b z), w.dom, w.tabs, fun i p e => ?_⟩
  · by_cases hi : i ∈ vs
    · have hl : i < env.length := by have := (List.getElem?_eq_some_iff.mp e).1; rwa [wipeE_len] at this
      rw [wipeE_in _ _ _ hi hl] at e
      cases e
    · rw [wipeE_at _ _ _ hi] at e
      obtain ⟨v, h1, h2⟩ := w.slot i d e
      have : dropV F vs i = F i := by unfold dropV; rw [if_neg hi]
      rw [this, wipe_at _ _ _ hi]
      exact ⟨v, h1, h2.stay st fun _ _ _ q => q⟩
  · unfold dropV
    split
    · rfl
    · rename_i hi
      exact w.emp i fun d e => h d (by rw [wipeE_at _ _ _ hi]; exact e)
  · unfold dropV at h1 h2
    split at h1
    · cases h1
    · split at h2
      · cases h2
      · exact w.disj i j b h1 h2
  · have hi : i ∉ vs := fun hi => by rw [hp i hi] at e; cases e
    rw [wipe_at _ _ _ hi]
    exact w.pins i p e
theorem restore_len : ∀ (vs : List Nat) (env0 env : Env), (restore env0 env vs).length = env.length
  | [], _, _ => rfl
  | i :: r, env0, env => by
    show ((restore env0 env r).set i _).length = _
    rw [List.length_set, restore_len r]
theorem restore_at : ∀ (vs : List Nat) (env0 env : Env) (i : Nat), i ∉ vs → (restore env0 env vs)[i]? = env[i]?
  | [], _, _, _, _ => rfl
  | j :: r, env0, env, i, h => by
    simp only [List.mem_cons, not_or] at h
    show ((restore env0 env r).set j _)[i]? = _
    rw [List.getElem?_set_ne (Ne.symm h.1), restore_at r env0 env i h.2]
theorem restore_in : ∀ (vs : List Nat) (env0 env : Env) (i : Nat), i ∈ vs → i < env.length → (restore env0 env vs)[i]? = some (env0.getD i none)
  | [], _, _, _, h, _ => by cases h
  | j :: r, env0, env, i, h, hl => by
    show ((restore env0 env r).set j _)[i]? = _
    by_cases hj : j = i
    · subst hj
      rw [List.getElem?_set_self (by rw [restore_len]; exact hl)]
    · rw [List.getElem?_set_ne hj]
      exact restore_in r env0 env i ((List.mem_cons.mp h).resolve_left (Ne.symm hj)) hl
/-- .. and are what they were -/
theorem Wf.restore {F0 : Fo} {H0 : Hp} {A1 : As} (w0 : Wf C.K C.T A1 C.P F0 H0 σ env0) (hpu : ∀ i ∈ vs, pureAt env0 i = true) (w : Wf C.K C.T A0 C.P F H (L2.wipe σ vs) (wipeE env vs)) (st : Stays (cup A1 (ow F0)) H0 (cup A0 (ow F)) H) (hp : ∀ i ∈ vs, C.P i = none) :
    Wf C.K C.T A0 C.P F H σ (restore env0 env vs) := by
  have le : env.length = σ.length := by have := w.len; rwa [wipeE_len, wipe_length] at this
  refine ⟨by rw [restore_len]; exact le, fun i d e => ?_, fun i h => ?_, w.disj, w.out, w.dom, w.tabs, w0.pins⟩
  · have hl : i < env.length := by have := (List.getElem?_eq_some_iff.mp e).1; rwa [restore_len] at this
    by_cases hi : i ∈ vs
    · rw [restore_in _ _ _ _ hi hl] at e
      have e0 : env0[i]? = some (some d) := by
        have e := Option.some.inj e
        rw [List.getD_eq_getElem?_getD] at e
        cases h : env0[i]? with
        | none => rw [h] at e; cases e
        | some q => rw [h] at e; rw [show q = some d from e]
      obtain ⟨v, h1, h2⟩ := w0.slot i d e0
      have no : d.isOwn = false := by
        have := hpu i hi
        unfold pureAt at this
        rw [e0] at this
        simpa using this
      have hF : F i = [] := w.emp i fun d' e' => by
        rw [wipeE_in _ _ _ hi hl] at e'
        cases e'
      have pu := h2.frozen (Av' := cup A1 (ow F0)) (fun _ z => z) fun b hb => by rw [w0.emp i fun d' e' => by rw [e0] at e'; cases e'; exact no] at hb; cases hb
      rw [D.fz_of no] at pu
      rw [hF]
      exact ⟨v, h1, .pu (pu.stay st)⟩
    · rw [restore_at _ _ _ _ hi] at e
      obtain ⟨v, h1, h2⟩ := w.slot i d (by rw [wipeE_at _ _ _ hi]; exact e)
      rw [wipe_at _ _ _ hi] at h1
      exact ⟨v, h1, h2⟩
  · by_cases hi : i ∈ vs
    · refine w.emp i fun d' e' => ?_
      by_cases hl : i < env.length
      · rw [wipeE_in _ _ _ hi hl] at e'
        cases e'
      · rw [List.getElem?_eq_none (by rw [wipeE_len]; omega)] at e'
        cases e'
    · exact w.emp i fun d' e' => h d' (by rw [restore_at _ _ _ _ hi]; rwa [wipeE_at _ _ _ hi] at e')
end
mutual
theorem asT_length {pin : Nat → Bool} : ∀ {t : T} {d : D} {env env' : Env} {u : Unit}, asT pin t d env = some (.ok u env') → env'.length = env.length
  | .nm i, d, env, env', u, e => by
    rw [asT] at e
    split at e
    · cases e
    · obtain ⟨_, h⟩ := setV_ok e
      cases h
      simp
  | .tp ts, d, env, env', u, e => by
    obtain ⟨ds, rfl, e⟩ := asT_tp e
    exact asTs_length e
theorem asTs_length {pin : Nat → Bool} : ∀ {ts : Ts} {ds : List D} {env env' : Env} {u : Unit}, asTs pin ts ds env = some (.ok u env') → env'.length = env.length
  | .nil, ds, env, env', u, e => by
    obtain ⟨_, h⟩ := asTs_nil e
    cases h
    rfl
  | .cons t ts, ds, env, env', u, e => by
    obtain ⟨d, r', rfl, e⟩ := asTs_cons e
    rcases bind_cases e with ⟨c, d, env1, q, e1⟩ | ⟨u, env1, q, e1⟩
    · cases e1
    · rw [asTs_length e1, asT_length q]
end
mutual
theorem asT_ok {pin : Nat → Bool} : ∀ {t : T} {d : D} {env : Env} {r : Res Unit}, asT pin t d env = some r → ∃ env', r = .ok () env'
  | .nm i, d, env, r, e => by
    rw [asT] at e
    split at e
    · cases e
    · obtain ⟨_, h⟩ := setV_ok e
      exact ⟨_, h⟩
  | .tp ts, d, env, r, e => by
    obtain ⟨ds, rfl, e⟩ := asT_tp e
    exact asTs_ok e
theorem asTs_ok {pin : Nat → Bool} : ∀ {ts : Ts} {ds : List D} {env : Env} {r : Res Unit}, asTs pin ts ds env = some r → ∃ env', r = .ok () env'
  | .nil, ds, env, r, e => by
    obtain ⟨_, h⟩ := asTs_nil e
    exact ⟨_, h⟩
  | .cons t ts, ds, env, r, e => by
    obtain ⟨d, r', rfl, e⟩ := asTs_cons e
    rcases bind_cases e with ⟨c, d, env1, q, e1⟩ | ⟨u, env1, q, e1⟩
    · obtain ⟨_, h⟩ := asT_ok q
      cases h
    · exact asTs_ok e1
end
def jOV (K : PySem.W.Frag) : Rel (Option D) (Option V) := fun o _ Av H b => match o, b with
  | none, none => True
  | some d, some v => Pu K Av H v d
  | _, _ => False
/-- nothing is raised -/
def Bs.nox (B : Bs) : Bs := { B with W := fun _ _ _ _ => False }
section
variable {X : Cx} {B : Bs} {Γ : Sig} {pos : Pos} {e : Expr}
theorem comp_read {t : T} {mi : M (List D)} {mc : M Bool} {me : M D} {vs : List Nat} (hp : PinOk Γ B.P) (hx : ∀ d env r, asT Γ.pin t d env = some r → ∃ env', r = .ok () env') :
    ∀ σ H Q, tO (cf X B) (compF Γ t mi mc me vs) σ H Q → tLc (tI (cf X B) mi) (gT (cf X B.nox) Γ.pin t) (tTst (cf X B.nox) mc) (tO (cf X B.nox) me) vs σ H Q := by
  rintro σ H Q ⟨A0, F, env, w, q⟩
  unfold compF at q
  refine tAt_bind (J := jIt X.K) w q fun J H1 F1 env1 ds t1 w1 j q1 => ?_
  have j : IterOk X.K (cup A0 (ow F1)) J ds H1 := j
  intro Da hDa
  obtain ⟨r, e, p⟩ := q1
  dsimp only at e
  split at e
  · rename_i hok
    simp only [Bool.and_eq_true, Bool.not_eq_true', List.all_eq_true, List.any_eq_false] at hok
    obtain ⟨⟨hpu, hpin⟩, hsl⟩ := hok
    have hP : ∀ i ∈ vs, B.P i = none := fun i hi => hp i (by simpa using hpin i hi)
    have sub : ∀ i, i ∈ t.slots → i ∈ vs := fun i hi => by simpa using hsl i hi
    have w1' := (w1.newOwn (o := .lst []) hDa).wipe (C := cf X B) (vs := vs) hP
    have st0 : Stays (cup A0 (ow F1)) H1 (cup (cup A0 (inL [Da])) (ow (dropV F1 vs))) (upd H1 Da (.lst [])) := fun a o h n nn => by
      refine ⟨(Tr.new (O := fun _ => False) hDa).keep a o h id nn, fun z => ?_⟩
      rcases z with (z | z) | z
      · exact n (.inl z)
      · rw [List.mem_singleton.mp z, hDa] at h; cases h
      · exact n (.inr (dropV_le a z))
    have hDA : ¬ A0 Da := fun z => w1.dom Da z hDa
    -- between the turns
    refine ⟨fun i m H => m = ds.length - i ∧ i ≤ ds.length ∧ ∃ F env acc vacc, Wf X.K B.T (cup A0 (inL [Da])) B.P F H (wipe σ vs) (wipeE env vs) ∧ H Da = some (.lst vacc) ∧ Pus X.K (cup (cup A0 (inL [Da])) (ow F)) H vacc acc ∧
      Stays (cup A0 (ow F1)) H1 (cup (cup A0 (inL [Da])) (ow F)) H ∧ Tr (ow F1) H1 (cup (inL [Da]) (ow F)) H ∧ compGo (turnF Γ.pin t mc me) vs env1 (ds.drop i) acc env = some r,
      ⟨ds.length, by simp, Nat.zero_le _, dropV F1 vs, env1, [], [], w1', upd_same, .nil, st0, ?_, e⟩, ?_⟩
    · exact (Tr.newOwn hDa).less fun b z => z.imp id (dropV_le b)
    rintro i m H2 ⟨rfl, hi, F2, env2, acc, vacc, w2, hD2, pacc, st, tr, e2⟩
    have dom : ∀ b, cup (cup A0 (inL [Da])) (ow F2) b → H2 b ≠ none := fun b z => z.elim (w2.dom b) fun z => by
      obtain ⟨xs, q⟩ := w2.odom b z
      rw [q]; simp
    obtain ⟨go, stop, yld⟩ := j _ H2 st dom
    by_cases hlt : i < ds.length
    · refine .inr ⟨go i hlt, ?_⟩
      rw [List.drop_eq_getElem_cons hlt] at e2
      unfold compGo at e2
      refine ⟨fun H' => ∃ F env acc vacc, Wf X.K B.T (cup A0 (inL [Da])) B.P F H' (wipe σ vs) (wipeE env vs) ∧ H' Da = some (.lst vacc) ∧ Pus X.K (cup (cup A0 (inL [Da])) (ow F)) H' vacc acc ∧
        Stays (cup A0 (ow F1)) H1 (cup (cup A0 (inL [Da])) (ow F)) H' ∧ Tr (ow F1) H1 (cup (inL [Da]) (ow F)) H' ∧ compGo (turnF Γ.pin t mc me) vs env1 (ds.drop (i + 1)) acc env = some r, fun H' q => ⟨ds.length - (i + 1), by omega, rfl, hlt, q⟩, ?_⟩
      intro x H3 y
      obtain ⟨ext, pu⟩ := yld i ds[i] x H3 (by simp [hlt]) y
      have dm : ∀ b, H2 b ≠ none → H3 b ≠ none := fun b h z => by
        cases q : H2 b with
        | none => exact h q
        | some o => rw [ext b o q] at z; cases z
      have w3 : Wf X.K B.T (cup A0 (inL [Da])) B.P F2 H3 (wipe σ vs) (wipeE env2 vs) := w2.turn (fun b o q _ => ext b o q) dm (w2.tabs.ext ext)
      have t3 : Tr (ow F2) H2 (ow F2) H3 := ⟨fun b o q _ _ => ext b o q, dm, fun b z => .inl z⟩
      cases hm : turnF Γ.pin t mc me ds[i] (wipeE env2 vs) with
      | none => rw [hm] at e2; cases e2
      | some rt =>
        rw [hm] at e2
        cases rt with
        | exn c d env3 => cases e2
        | ok ox env3 =>
          unfold turnF at hm
          rcases bind_cases hm with ⟨c, d, env4, h, _⟩ | ⟨u, env4, ha, hm2⟩
          · obtain ⟨_, h⟩ := hx _ _ _ h; cases h
          · refine ⟨cup A0 (inL [Da]), F2, wipeE env2 vs, _, env4, w3, pu, ha, fun σ4 F4 hF4 w4 hσ4 => ⟨?_, ?_⟩⟩
            · have hl4 : σ4.length = σ.length := by
                have h1 := w4.len
                have h2 := w3.len
                obtain ⟨_, z⟩ := hx _ _ _ ha
                have l1 : env4.length = (wipeE env2 vs).length := asT_length ha
                rw [← h1, l1, h2, wipe_length]
              exact wipe_eq hl4 fun k hk => by rw [hσ4 k (fun z => hk (sub k z)), wipe_at _ _ _ hk]
            · have t4 : Tr (ow F2) H2 (ow F4) H3 := t3.trans (Tr.refl.less hF4)
              -- the rest of the turn
              have hw : wipe σ4 vs = wipe σ vs := by
                have hl4 : σ4.length = σ.length := by
                  have h1 := w4.len
                  have h2 := w3.len
                  have l1 : env4.length = (wipeE env2 vs).length := asT_length ha
                  rw [← h1, l1, h2, wipe_length]
                exact wipe_eq hl4 fun k hk => by rw [hσ4 k (fun z => hk (sub k z)), wipe_at _ _ _ hk]
              have fin : ∀ (ov : Option V) H5 F5, Tr (ow F4) H3 (ow F5) H5 → Wf X.K B.T (cup A0 (inL [Da])) B.P F5 H5 σ4 env3 → jOV X.K ox σ4 (cup (cup A0 (inL [Da])) (ow F5)) H5 ov →
                  (match ov with
                  | none => ∃ F env acc vacc, Wf X.K B.T (cup A0 (inL [Da])) B.P F H5 (wipe σ vs) (wipeE env vs) ∧ H5 Da = some (.lst vacc) ∧ Pus X.K (cup (cup A0 (inL [Da])) (ow F)) H5 vacc acc ∧
                      Stays (cup A0 (ow F1)) H1 (cup (cup A0 (inL [Da])) (ow F)) H5 ∧ Tr (ow F1) H1 (cup (inL [Da]) (ow F)) H5 ∧ compGo (turnF Γ.pin t mc me) vs env1 (ds.drop (i + 1)) acc env = some r
                  | some y => ∃ vac, H5 Da = some (.lst vac) ∧ vac.length < sizeLine ∧ ∃ F env acc vacc, Wf X.K B.T (cup A0 (inL [Da])) B.P F (upd H5 Da (.lst (vac ++ [y]))) (wipe σ vs) (wipeE env vs) ∧ (upd H5 Da (.lst (vac ++ [y]))) Da = some (.lst vacc) ∧ Pus X.K (cup (cup A0 (inL [Da])) (ow F)) (upd H5 Da (.lst (vac ++ [y]))) vacc acc ∧
                      Stays (cup A0 (ow F1)) H1 (cup (cup A0 (inL [Da])) (ow F)) (upd H5 Da (.lst (vac ++ [y]))) ∧ Tr (ow F1) H1 (cup (inL [Da]) (ow F)) (upd H5 Da (.lst (vac ++ [y]))) ∧ compGo (turnF Γ.pin t mc me) vs env1 (ds.drop (i + 1)) acc env = some r) := by
                intro ov H5 F5 t5 w5 jo
                have t25 : Tr (ow F2) H2 (ow F5) H5 := t4.trans t5
                have hD5 : H5 Da = some (.lst vacc) := t25.keep Da _ hD2 (fun z => w2.out Da z (.inr (by simp [inL]))) (fun ps z => by cases z)
                have stt : Stays (cup (cup A0 (inL [Da])) (ow F2)) H2 (cup (cup A0 (inL [Da])) (ow (dropV F5 vs))) H5 := t25.stays.trans (stays_less fun b z => z.imp id (dropV_le b))
                have w5w : Wf X.K B.T (cup A0 (inL [Da])) B.P (dropV F5 vs) H5 (wipe σ vs) (wipeE env3 vs) := by
                  have := w5.wipe (C := cf X B) (vs := vs) hP
                  rwa [hw] at this
                have trr : Tr (ow F1) H1 (cup (inL [Da]) (ow (dropV F5 vs))) H5 := by
                  refine tr.trans (?_ : Tr (cup (inL [Da]) (ow F2)) H2 (cup (inL [Da]) (ow (dropV F5 vs))) H5)
                  refine ⟨fun b o q n nn => t25.keep b o q (fun z => n (.inr z)) nn, t25.dom, fun b z => ?_⟩
                  rcases z with z | z
                  · exact .inl (.inl z)
                  · exact (t25.grow b (dropV_le b z)).imp .inr id
                cases ov with
                | none =>
                  cases ox with
                  | none => exact ⟨_, env3, acc, vacc, w5w, hD5, pacc.stay stt, st.trans stt, trr, e2⟩
                  | some d => exact jo.elim
                | some y =>
                  cases ox with
                  | none => exact jo.elim
                  | some d =>
                    simp only at e2
                    split at e2
                    · rename_i hz
                      rw [lim_eq] at hz
                      have jo : Pu X.K (cup (cup A0 (inL [Da])) (ow F5)) H5 y d := jo
                      have jo' := jo.stay (stays_less (H := H5) (A := cup (cup A0 (inL [Da])) (ow F5)) (B := cup (cup A0 (inL [Da])) (ow (dropV F5 vs))) fun b z => z.imp id (dropV_le b))
                      have tw : Tr (inL [Da]) H5 (inL [Da]) (upd H5 Da (.lst (vacc ++ [y]))) := Tr.write (by simp [inL])
                      have stw : Stays (cup (cup A0 (inL [Da])) (ow (dropV F5 vs))) H5 (cup (cup A0 (inL [Da])) (ow (dropV F5 vs))) (upd H5 Da (.lst (vacc ++ [y]))) := fun b o q n nn => ⟨tw.keep b o q (fun z => n (.inl (.inr z))) nn, n⟩
                      refine ⟨vacc, hD5, by rw [pacc.length]; exact hz, dropV F5 vs, env3, acc ++ [d], vacc ++ [y], ?_, upd_same, ((pacc.stay stt).append (.cons jo' .nil)).stay stw, (st.trans stt).trans stw, ?_, e2⟩
                      · refine ⟨w5w.len, fun k d' ek => ?_, w5w.emp, w5w.disj, w5w.out, fun b z => tw.dom b (w5w.dom b z), ?_, w5w.pins⟩
                        · obtain ⟨v, g1, g2⟩ := w5w.slot k d' ek
                          refine ⟨v, g1, g2.stay stw fun b hb o q => ?_⟩
                          rw [upd_ne (fun z => w5w.out b ⟨k, hb⟩ (.inr (by rw [z]; simp [inL])))]
                          exact q
                        · intro q hq
                          obtain ⟨qs, a1, a2, a3⟩ := w5w.tabs q hq
                          have np : ∀ b o, H5 b = some o → (∀ xs, o ≠ .lst xs) → b ≠ Da := fun b o e n z => by rw [z, hD5] at e; cases e; exact n _ rfl
                          refine ⟨qs, by rw [upd_ne (np _ _ a1 fun xs z => by cases z)]; exact a1, a2, fun ps cv hcv => ?_⟩
                          obtain ⟨c, e1, e2⟩ := a3 ps cv hcv
                          exact ⟨c, e1, by rw [upd_ne (np _ _ e2 fun xs z => by unfold LamX.CodeO at z; cases z)]; exact e2⟩
                      · refine trr.trans ⟨fun b o q n nn => tw.keep b o q (fun z => n (.inl z)) nn, tw.dom, fun b z => .inl z⟩
                    · cases e2
              have h0 : tAt (cf X B.nox) (.of (cf X B.nox) (jOV X.K)) (M.bind mc fun k => if k then M.bind me fun x => M.ret (some x.fz) else M.ret none) (cup A0 (inL [Da])) F4 env4 σ4 H3 (fun ov H5 => _) := ⟨_, hm2, fin⟩
              refine tAt_bind (J := jB) (C := cf X B.nox) w4 h0 fun b H5 F5 env5 k t5 w5 j5 q5 => ?_
              obtain rfl : k = b := j5
              cases k with
              | true => exact tO_fz (C := cf X B.nox) w5 q5 fun v H6 F6 env6 d t6 w6 pu6 q6 => tAt_ret q6 (some v) H6 F6 Tr.refl w6 pu6
              | false => exact tAt_ret q5 none H5 F5 Tr.refl w5 trivial
    · have ei : i = ds.length := by omega
      subst ei
      rw [List.drop_length] at e2
      cases e2
      refine .inl ⟨stop, p (.ref Da) H2 F2 [Da] tr ?_ (.lst hD2 pacc) fun b hb z => hDA (by rw [← List.mem_singleton.mp hb]; exact z)⟩
      exact w1.restore (C := cf X B) (fun i hi => hpu i hi) w2 st hP
  · cases e
end
end Dz

set_option Elab.async false
set_option linter.all false
set_option maxRecDepth 100000
set_option maxHeartbeats 2000000
/-! Dz, part 12: comprehensions as expressions and stored; a[::-1]; join. -/
namespace Dz
open PySem PySem.Spec PyProof.Rows L2
section
variable {X : Cx} {B : Bs} {Γ : Sig} {pos : Pos} {e : Expr}
theorem _root_.L2.PTs.mono {es : List Expr} {t t' : TT} (h : PTs X es t) (k : ∀ σ H Q, t' σ H Q → t σ H Q) : PTs X es t' := ⟨fun pins s σ H Q I q => h.run pins s σ H Q I (k σ H Q q)⟩
theorem dc_nil : PTs X [] (tTst (cf X B) (M.ret true)) := pts_nil.mono fun σ H Q ⟨A0, F, env, w, q⟩ => tAt_ret q true H F Tr.refl w rfl
theorem dc_one {m : M Bool} (h : PT X e (tTst (cf X B) m)) : PTs X [e] (tTst (cf X B) m) := pts_one h
theorem de_comp {elt tg iter : Expr} {ifs : List Expr} {scope : Scope} {own : List (Str × Nat)} {t : T} {mi : M (List D)} {mc : M Bool} {me : M D} (hp : PinOk Γ B.P) (hc : X.calm = true) (hN : X.N.Nodup) (hi : PI X tg iter (tI (cf X B) mi)) (ok : blkC X.N X.env.scope scope own = true)
    (hg : ∀ (s : Shared) (H : Hp) (C : Addr) (cl : List (Str × Addr)) (fp : List Addr), PG (X.blk s H scope (compEnvC scope cl C X.env) fp) tg (gT (cf X B.nox) Γ.pin t))
    (ht : ∀ (s : Shared) (H : Hp) (C : Addr) (cl : List (Str × Addr)) (fp : List Addr), PTs (X.blk s H scope (compEnvC scope cl C X.env) fp) ifs (tTst (cf X B.nox) mc))
    (he : ∀ (s : Shared) (H : Hp) (C : Addr) (cl : List (Str × Addr)) (fp : List Addr), PE (X.blk s H scope (compEnvC scope cl C X.env) fp) elt (tO (cf X B.nox) me)) (hs : ∀ x, foldedSetIterable iter X.env x = pure x) :
    PE X (.ListComp elt [⟨tg, iter, ifs, 0⟩] scope pos) (tO (cf X B) (compF Γ t mi mc me (own.map (·.2)))) :=
  (pe_lc hc hN hi (blkOk_by ok) hg ht he hs).mono (comp_read hp fun d env r => asT_ok)
theorem asg_name_read {i : Nat} {m : M D} (hp : PinOk Γ B.P) : ∀ D σ H, tX (cf X B) (run (M.bind m fun d => stV Γ i d) nxt) D σ H → tAsg (tO (cf X B) m) (gName i) D σ H := asg_read hp
theorem ds_setLc {i : Nat} {y : Str} {py : Pos} {elt tg iter : Expr} {ifs : List Expr} {scope : Scope} {own : List (Str × Nat)} {lpos : Pos} {t : T} {mi : M (List D)} {mc : M Bool} {me : M D} (hp : PinOk Γ B.P) (hc : X.calm = true) (hN : X.N.Nodup) (hy : X.N[i]? = some y) (hyl : X.env.scope.names.lookup y = some .local)
    (hsw : swapsWith (.ListComp elt [⟨tg, iter, ifs, 0⟩] scope lpos) (some (.Name y py)) pos.line X.env = pure true) (hi : PI X tg iter (tI (cf X B) mi)) (ok : blkC X.N X.env.scope scope own = true)
    (hg : ∀ (s : Shared) (H : Hp) (C : Addr) (cl : List (Str × Addr)) (fp : List Addr), PG (X.blk s H scope (compEnvC scope cl C X.env) fp) tg (gT (cf X B.nox) Γ.pin t))
    (ht : ∀ (s : Shared) (H : Hp) (C : Addr) (cl : List (Str × Addr)) (fp : List Addr), PTs (X.blk s H scope (compEnvC scope cl C X.env) fp) ifs (tTst (cf X B.nox) mc))
    (he : ∀ (s : Shared) (H : Hp) (C : Addr) (cl : List (Str × Addr)) (fp : List Addr), PE (X.blk s H scope (compEnvC scope cl C X.env) fp) elt (tO (cf X B.nox) me)) (hs : ∀ x, foldedSetIterable iter X.env x = pure x) :
    PS X (.Assign [.Name y py] (.ListComp elt [⟨tg, iter, ifs, 0⟩] scope lpos) pos) (tX (cf X B) (run (M.bind (compF Γ t mi mc me (own.map (·.2))) fun d => stV Γ i d) nxt)) := by
  refine (ps_setLc hc hN hy hyl hsw hi (blkOk_by ok) hg ht he hs).mono fun D σ H q => ?_
  exact comp_read hp (fun d env r => asT_ok) σ H _ (asg_name_read hp D σ H q)

/-! ### a[::-1] -/
def tRevD (K : PySem.W.Frag) (te : TE) : TE := fun σ H Q => te σ H fun x H1 => (∃ a xs, x = .ref a ∧ SqL K H1 a xs ∧ ∀ p, H1 p = none → Q (.ref p) (upd H1 p (.lst xs.reverse))) ∨ ∃ z : List Nat, x = .str ⟨z.toArray⟩ ∧ z.length ≤ sizeLine ∧ Q (.str ⟨z.reverse.toArray⟩) H1
theorem str_back (z : List Nat) : ((Builtin.Str.strSliceIndices none none (-1) z.length).filterMap (z.toArray[·]?)) = z.reverse := by
  have e : Builtin.Str.strSliceIndices none none (-1) z.length = (List.range z.length).reverse := by
    show sliceRange ((z.length : Int) - 1) (-1) (-1) = _
    rw [PySem.W.krv_sliceRange, PySem.W.krv_range]
  rw [e, List.filterMap_reverse]
  have := PySem.W.krv_all z.toArray
  rw [List.size_toArray] at this
  rw [this]
theorem pe_revD {te : TE} {k : Nat} {p1 p2 p3 : Pos} (he : PE X e te) : PE X (.Subscript e (.Slice none none (some (.UnaryOp .USub (.Constant (.int 1) k p1) p2)) p3) pos) (tRevD X.K te) := by
  refine ⟨fun pins s σ H Q I h => Subscript_ (thn (he.run pins s σ H _ I h) fun v s1 ⟨x, H1, I1, r1, q1⟩ => ?_)⟩
  have hst : PO X (some (.UnaryOp .USub (.Constant (.int 1) k p1) p2)) (tPart (tUn (rU fun i => .int (-i)) (tC (.int 1)))) := po_some (pe_un un_neg pe_int)
  refine wpAny_Slice (thn (po_none.run pins s1 σ H1 (fun o Hb => o = none ∧ Hb = H1) I1 ⟨rfl, rfl⟩) fun vl s2 ⟨l, H2, I2, pl, el, e2⟩ => ?_)
  subst el e2
  refine thn (po_none.run pins s2 σ H2 (fun o Hb => o = none ∧ Hb = H2) I2 ⟨rfl, rfl⟩) fun vu s3 ⟨u, H3, I3, pu, eu, e3⟩ => ?_
  subst eu e3
  refine thn (hst.run pins s3 σ H3 (fun o Hb => o = some (-1) ∧ Hb = H3) I3 ⟨1, rfl, -1, rfl, rfl, rfl⟩) fun vs s4 ⟨o, H4, I4, ps, eo, e4⟩ => ?_
  subst eo e4
  have I5 : Inv X pins σ H4 { s4 with heap := s4.heap.push { cls := .type "slice", data := .fields #[vl, vu, vs] } } := I4.kept (t' := s4.toks) fun b ob q => Heap.get?_push_of_some _ q
  show wpAny (model X.prog X.w) X.A (subscriptTail e (.Slice none none (some (.UnaryOp .USub (.Constant (.int 1) k p1) p2)) p3) v (.ref s4.heap.objs.size)) (EP X pins σ Q) X.xe { s4 with heap := s4.heap.push { cls := .type "slice", data := .fields #[vl, vu, vs] } }
  rcases q1 with ⟨a, xs, rfl, hx, q⟩ | ⟨z, rfl, hz, q⟩
  · cases r1
    obtain ⟨its, r, ht, hz⟩ := I5.list hx
    have hlen := r.length
    refine tail_any (ops := [.ref a, .ref s4.heap.objs.size]) ht.isList.typeIs (PySem.slot_list_getitem.lookup) ?_ (by with_unfolding_all rfl)
    refine wpAny_getItem_list_slice ht.isList (Heap.IsSliceOf.new _ vl vu vs) pl pu ps (by decide) ?_ (by rw [List.size_toArray]; omega)
    rw [PySem.W.krv_pick]
    refine ⟨.ref _, _, I5.laid (t' := s4.toks) (o := .lst xs.reverse) (fun b ob q => Heap.get?_push_of_some _ q) (Nat.le_refl _) ?_, rfl, q _ (I5.hok.fresh (Nat.le_refl _))⟩
    exact ⟨by rw [List.length_reverse]; exact hz, _, 0, r.reverse, Heap.get?_push_size _ rfl⟩
  · obtain ⟨t, rfl⟩ := r1
    obtain ⟨l', rfl, el⟩ := IsPart.raw pl
    obtain ⟨u', rfl, eu⟩ := IsPart.raw pu
    obtain ⟨w', rfl, ew⟩ := IsPart.raw ps
    cases l' with
    | some _ => cases el
    | none =>
    cases u' with
    | some _ => cases eu
    | none =>
    cases w' with
    | none => cases ew
    | some w' =>
    obtain ⟨wi, wt⟩ := w'
    obtain rfl : wi = -1 := Option.some.inj ew
    refine tail_any (ops := [.str ⟨z.toArray⟩ t, .ref s4.heap.objs.size]) (typeIs_str _ _ _) F.slot_str_getitem.lookup ?_ (by with_unfolding_all rfl)
    refine wpAny_getItem_str_slice (l := none) (u := none) (st := some (-1, wt)) ⟨_, Heap.get?_push_size _ rfl, rfl, rfl⟩ rfl ?_
    show (Made.str ⟨((Builtin.Str.strSliceIndices none none (-1) (⟨z.toArray⟩ : Str).length).filterMap (z.toArray[·]?)).toArray⟩).post (EP X pins σ Q) _
    rw [str_len, str_back]
    exact ⟨by rw [str_len, List.length_reverse]; exact hz, .str _, H4, I5.tok _, ⟨_, rfl⟩, q⟩
theorem de_rev {k : Nat} {p1 p2 p3 : Pos} {m : M Opd} (ha : PE X e (tP (cf X B) m)) : PE X (.Subscript e (.Slice none none (some (.UnaryOp .USub (.Constant (.int 1) k p1) p2)) p3) pos) (tO (cf X B) (revF m)) := by
  refine (pe_revD ha).mono fun σ H Q ⟨A0, F, env, w, q⟩ => tAt_bind w q fun x H1 F1 env1 o1 t1 w1 j1 q1 => ?_
  obtain ⟨d, p, q2⟩ := tAt_get w1 j1 q1
  obtain ⟨r, e, q3⟩ := tAt_opt q2
  cases d <;> simp only [revD] at e <;> first | cases e; done | skip
  · split at e
    · cases e
      rename_i hz
      rw [lim_eq] at hz
      exact .inr ⟨_, p.str, hz, own_of_pu q3 w1 (.str _)⟩
    · cases e
  · cases e
    obtain ⟨a, vs, rfl, h, hs⟩ := p.list
    exact .inl ⟨a, vs, rfl, h, fun p hp => own_new q3 w1 hs.reverse hp⟩

/-! ### sep.join(list) -/
theorem joinA (sep : List Nat) (xs : List (List Nat)) : Txt.join ⟨sep.toArray⟩ (xs.map fun l => (⟨l.toArray⟩ : Str)) = ⟨(TL.joinL sep xs).toArray⟩ := by
  have e := TL.tl_join ⟨sep.toArray⟩ (xs.map fun l => (⟨l.toArray⟩ : Str))
  have em : (xs.map fun l => (⟨l.toArray⟩ : Str)).map TL.tl = xs := by
    rw [List.map_map]
    conv => rhs; rw [← List.map_id xs]
    exact List.map_congr_left fun l _ => rfl
  rw [em] at e
  exact TL.ext_tl ((congrArg TL.tl (TL.join_eq _ _)).trans e)
theorem de_join {o : Expr} {ap cp : Pos} {mo : M Opd} {ms : M (List Opd)} (ho : PE X o (tP (cf X B) mo)) (ha : PA X [e] (tOpds (cf X B) ms)) (hst : noStar e = true) (hbase : attributeBase o "join" X.env (eval o X.env) = eval o X.env) (hline : (ap.endLine == cp.line) = true) :
    PE X (.Call (.Attribute o "join" ap) [e] [] cp) (tO (cf X B) (methF .join mo ms)) := by
  have s1 := star1 (es := []) (env := X.env) hst
  refine (pe_bm PySem.F.plainAttrs_str PySem.F.slot_str_join PySem.F.type_str_join mt_join ho ha hbase (by rw [s1]; rfl) hline s1 (by rfl)).mono fun σ H Q ⟨A0, F, env, w, q⟩ => ?_
  refine tAt_bind w q fun x H1 F1 env1 o1 t1 w1 j1 q1 => ?_
  obtain ⟨d, p, q2⟩ := tAt_get w1 j1 q1
  cases d <;> first | exact (tAt_fail q2).elim | skip
  rename_i s
  refine ⟨by rw [p.str]; rfl, ?_⟩
  refine tAt_bind w1 q2 fun vs H2 F2 env2 os t2 w2 j2 q3 => ?_
  obtain ⟨ds, h, q4⟩ := tAt_gets w2 j2 q3
  obtain ⟨r, e, q5⟩ := tAt_opt q4
  obtain ⟨ls, rfl, e⟩ : ∃ ls, ds = [.lst ls] ∧ ((strsOf ls).bind fun xs => if (xs.map (·.length)).sum + xs.length * s.length ≤ lim then some (D.str (TL.joinL s xs)) else none) = some r := by
    unfold methD at e
    split at e
    · rename_i h1 h2
      cases h2
      exact ⟨_, rfl, e⟩
    · cases e
  obtain ⟨xs, hxs, e⟩ := Option.bind_eq_some_iff.mp e
  split at e
  · rename_i hz
    cases e
    cases h with
    | cons p1 h =>
      cases h
      obtain ⟨a, ws, rfl, g, gs⟩ := p1.list
      have ew := strs_vs gs hxs
      refine ⟨⟨s.toArray⟩, a, xs.map fun l => ⟨l.toArray⟩, p.str, rfl, .inl ?_, ?_, ?_⟩
      · rw [List.map_map]
        rw [ew] at g
        exact g
      · rw [List.map_map, List.length_map, str_len]
        have : ((fun x : Str => x.length) ∘ fun l : List Nat => (⟨l.toArray⟩ : Str)) = fun l => l.length := by funext l; exact str_len l
        rw [this]
        exact hz
      · rw [joinA]
        exact own_of_pu q5 w2 (.str _)
  · cases e
end
end Dz

set_option Elab.async false
set_option linter.all false
set_option maxRecDepth 100000
set_option maxHeartbeats 2000000
/-! Dz: enumerate(zip(a, b)) over texts; zip's pair is out for as long as enumerate keeps it. -/
namespace Dz
open PySem PySem.Spec PyProof.Rows L2
/-- a zip, its owned tuple out or not -/
def ZipOb (h : Heap) (z TI TO : Addr) (u : Value) (f : Bool) : Prop :=
  h.get? z = some { cls := .type "zip", dict := none, data := .fields #[u, .bool f, .bool false, .ref TI, .ref TO], slots := #[] }
def Mayb (u : Value) : Prop := u = .none ∨ u = .ellipsis ∨ ∃ T : Addr, u = rawInt T
section
variable {prog : Program} {w : World} {A : Around} {E : Value → Shared → Prop} {s : Shared} {z TI TO i1 i2 : Addr} {fp1 fp2 : List Addr} {n1 n2 i : Nat} {P1 P2 : Nat → Value → Prop} {St1 St2 : Nat → Heap → Prop}
theorem ez_dead {a : Addr} {Q : Option Obj → Shared → Prop} (e0 : s.heap.get? a = none) (q : Q none s) : wpAny (model prog w) A (loadIfAlive a) Q E s := by
  have q2 : Q (s.heap.get? a) s := by rw [e0]; exact q
  exact fun _ _ _ => q2
/-- is the tuple free? yes as it stands, or no -/
theorem ez_free {u : Value} {f : Bool} {Q : Bool → Shared → Prop} (hz : ZipOb s.heap z TI TO u f) (hu : u = .none ∨ ∃ T : Addr, u = rawInt T) (q1 : Q true s)
    (q2 : ∀ (T : Addr) h', u = rawInt T → ZipOb h' z TI TO u true → Heap.SameBut z s.heap h' → Q false { s with heap := h' }) : wpAny (model prog w) A (Builtin.SmallTypes.ownedTupleIsFree (.ref z)) Q E s := by
  unfold Builtin.SmallTypes.ownedTupleIsFree
  rcases hu with rfl | ⟨T, rfl⟩
  · exact wpAny_bind (wpAny_field hz rfl (x := .none) rfl (wpAny_pure q1))
  · refine wpAny_bind (wpAny_field hz rfl (x := rawInt T) rfl ?_)
    show wpAny _ _ (loadIfAlive ((T : Int).toNat) >>= _) _ _ _
    rw [Int.toNat_natCast]
    cases hT : s.heap.get? T with
    | none =>
      refine wpAny_bind (ez_dead hT ?_)
      simp only [Option.isNone_none, if_true]
      exact wpAny_pure q1
    | some oT =>
      refine wpAny_bind (PySem.W.kdx_alive hT ?_)
      simp only [Option.isNone_some, Bool.false_eq_true, if_false]
      refine wpAny_bind (wpAny_field hz rfl (x := .bool f) rfl ?_)
      cases f with
      | true =>
        rw [if_neg (show ¬ ((Value.bool true != Value.bool true) = true) by decide)]
        exact wpAny_pure (q2 T s.heap rfl hz (Heap.SameBut.refl _ _))
      | false =>
        rw [if_pos (show (Value.bool false != Value.bool true) = true from rfl)]
        exact wpAny_bind (wpAny_setField_rec hz (by simp) fun h₁ hz₁ hs₁ => wpAny_pure (q2 T h₁ rfl hz₁ hs₁))
/-- zip's state: its tuples, its iterators -/
structure ZipSt (h : Heap) (z TI TO i1 i2 : Addr) : Prop where
  ob : ∃ u f, ZipOb h z TI TO u f ∧ (u = .none ∨ ∃ T : Addr, u = rawInt T)
  ti : IsTupOf2 h TI (.ref i1) (.ref i2)
  tw : ∃ a b, IsTupOf2 h TO a b
theorem ez_zip_item {Q : Value → Shared → Prop} (S : ZipSep2 z TI TO i1 i2 fp1 fp2) (D1 : Draws prog w A i1 fp1 n1 P1 St1) (D2 : Draws prog w A i2 fp2 n2 P2 St2)
    (Z : ZipSt s.heap z TI TO i1 i2) (st1 : St1 i s.heap) (st2 : St2 i s.heap) (lt1 : i < n1) (lt2 : i < n2)
    (hQ : ∀ x1 x2 h' tk, P1 i x1 → P2 i x2 → ZipSt h' z TI TO i1 i2 → St1 (i + 1) h' → St2 (i + 1) h' → IsTupOf2 h' s.heap.objs.size x1 x2 → h'.objs.size = s.heap.objs.size + 1 →
      (∀ c o, c ≠ z → c ≠ TO → c ≠ i1 → c ≠ i2 → s.heap.get? c = some o → h'.get? c = some o) → Q (.ref s.heap.objs.size) { s with heap := h', toks := tk }) :
    wpAny (model prog w) A (Builtin.«zip.__next__» ⟨[.ref z], []⟩) (fun fin s' => ∃ v, fin = .done (.ret v) ∧ Q v s') E s := by
  obtain ⟨h0, gg, dd, t0, oo⟩ := s
  obtain ⟨⟨u, f, hz, hu⟩, hI, ⟨a1, a2, hO⟩⟩ := Z
  replace hz : ZipOb h0 z TI TO u f := hz
  replace hI : IsTupOf2 h0 TI (.ref i1) (.ref i2) := hI
  replace hO : IsTupOf2 h0 TO a1 a2 := hO
  show wpAny _ _ (field (.ref z) 2 >>= _) _ _ _
  refine wpAny_bind (wpAny_field hz rfl (x := .bool false) rfl ?_)
  show wpAny _ _ (field (.ref z) 3 >>= _) _ _ _
  refine wpAny_bind (wpAny_field hz rfl (x := .ref TI) rfl ?_)
  refine wpAny_bind (wpAny_seqItems hI rfl ?_)
  show wpAny _ _ (Builtin.SmallTypes.ownedTupleIsFree (.ref z) >>= _) _ _ _
  refine wpAny_bind (ez_free hz hu ?_ fun T g0 eT hzg hsg => ?_)
  · simp only [if_true]
    refine wpAny_bind (wpAny_rule ?_)
    refine wpAny_bind (wpAny_field hz rfl (x := .ref TO) rfl ?_)
    refine wpAny_bind (wpAny_setField_rec hz (by simp) fun b0 zb0 sb0 => ?_)
    replace zb0 : ZipOb b0 z TI TO .ellipsis f := zb0
    replace sb0 : Heap.SameBut z h0 b0 := sb0
    refine wpAny_bind ?_
    simp only [List.zipIdx_cons, List.zipIdx_nil, List.forIn_cons, List.forIn_nil]
    refine wpAny_bind (wpAny_bind (wpAny_onRaise ?_))
    show wpAny _ _ (Builtin.SmallTypes.nextOf (.ref i1) >>= _) _ _ ⟨b0, gg, dd, t0, oo⟩
    refine wpAny_bind (D1.item i _ _ _ lt1 (D1.over st1 sb0 S.zf1) fun x1 b1 k1 px1 sx1 sb1 => wpAny_pure ?_)
    replace sb1 : Heap.SameBut i1 b0 b1 := sb1
    have o1 : IsTupOf2 b1 TO a1 a2 := sb1.extBut _ _ S.Ti1 (sb0.extBut _ _ S.TOz hO)
    refine wpAny_bind (wpAny_seqItems (s := ⟨b1, gg, dd, k1, oo⟩) o1 rfl ?_)
    refine wpAny_bind (updateSeq_IsTupOf2 (s := ⟨b1, gg, dd, k1, oo⟩) o1 fun b2 o2 sb2 => ?_)
    replace o2 : IsTupOf2 b2 TO x1 a2 := o2
    replace sb2 : Heap.SameBut TO b1 b2 := sb2
    refine wpAny_bind (wpAny_letGo (wpAny_pure ?_))
    refine wpAny_bind (wpAny_bind (wpAny_onRaise ?_))
    show wpAny _ _ (Builtin.SmallTypes.nextOf (.ref i2) >>= _) _ _ ⟨b2, gg, dd, k1, oo⟩
    refine wpAny_bind (D2.item i _ _ _ lt2 (D2.over (D2.over (D2.over st2 sb0 S.zf2) sb1 S.sep1_2) sb2 S.Tf2) fun x2 b3 k2 px2 sx2 sb3 => wpAny_pure ?_)
    replace sb3 : Heap.SameBut i2 b2 b3 := sb3
    have o3 : IsTupOf2 b3 TO x1 a2 := sb3.extBut _ _ S.Ti2 o2
    refine wpAny_bind (wpAny_seqItems (s := ⟨b3, gg, dd, k2, oo⟩) o3 rfl ?_)
    refine wpAny_bind (updateSeq_IsTupOf2 (s := ⟨b3, gg, dd, k2, oo⟩) o3 fun b4 o4 sb4 => ?_)
    replace o4 : IsTupOf2 b4 TO x1 x2 := o4
    replace sb4 : Heap.SameBut TO b3 b4 := sb4
    refine wpAny_bind (wpAny_letGo (wpAny_pure (wpAny_pure ?_)))
    refine wpAny_bind (wpAny_seqItems (s := ⟨b4, gg, dd, k2, oo⟩) o4 rfl ?_)
    refine wpAny_bind (wpAny_newTuple ?_)
    have sz4 : b4.objs.size = h0.objs.size := by rw [sb4.1, sb3.1, sb2.1, sb1.1, sb0.1]
    have keep : ∀ c o, c ≠ z → c ≠ TO → c ≠ i1 → c ≠ i2 → h0.get? c = some o → b4.get? c = some o := fun c o cz cT c1 c2 e =>
      (sb4.extBut _ _ cT (sb3.extBut _ _ c2 (sb2.extBut _ _ cT (sb1.extBut _ _ c1 (sb0.extBut _ _ cz e)))))
    have z4 : ZipOb b4 z TI TO .ellipsis f := (sb4.extBut _ _ S.TOz.symm (sb3.extBut _ _ S.zi2 (sb2.extBut _ _ S.TOz.symm (sb1.extBut _ _ S.zi1 zb0))))
    have j1 : St1 (i + 1) b4 := (D1.over (D1.over (D1.over sx1 sb2 S.Tf1) sb3 S.sep2_1) sb4 S.Tf1)
    have j2 : St2 (i + 1) b4 := (D2.over sx2 sb4 S.Tf2)
    have zlt : z < b4.objs.size := Heap.lt_size z4
    show wpAny _ _ (Builtin.SmallTypes.ownedTupleHandOut (.ref z) (.ref b4.objs.size) >>= _) _ _ ⟨b4.push { cls := .type "tuple", data := .seq #[x1, x2] }, gg, dd, k2, oo⟩
    refine wpAny_bind ?_
    unfold Builtin.SmallTypes.ownedTupleHandOut
    have z5 : ZipOb (b4.push { cls := .type "tuple", data := .seq #[x1, x2] }) z TI TO .ellipsis f := Heap.get?_push_of_some _ z4
    refine wpAny_bind (wpAny_setField_rec z5 (by simp) fun b6 z6 sb6 => ?_)
    replace z6 : ZipOb b6 z TI TO (rawInt b4.objs.size) f := z6
    refine wpAny_setField_rec z6 (by simp) fun b7 z7 sb7 => ?_
    replace z7 : ZipOb b7 z TI TO (rawInt b4.objs.size) false := z7
    replace sb6 : Heap.SameBut z (b4.push { cls := .type "tuple", data := .seq #[x1, x2] }) b6 := sb6
    replace sb7 : Heap.SameBut z b6 b7 := sb7
    have up : ∀ c o, c ≠ z → b4.get? c = some o → b7.get? c = some o := fun c o c1 e => sb7.extBut _ _ c1 (sb6.extBut _ _ c1 (Heap.get?_push_of_some _ e))
    have t7 : IsTupOf2 b7 b4.objs.size x1 x2 := sb7.extBut _ _ (Nat.ne_of_gt zlt) (sb6.extBut _ _ (Nat.ne_of_gt zlt) (Heap.get?_push_size _ rfl))
    have sz7 : b7.objs.size = b4.objs.size + 1 := by rw [sb7.1, sb6.1, Heap.size_push]
    rw [sz4] at z7 t7 sz7
    refine wpAny_pure ⟨_, rfl, ?_⟩
    show Q (.ref b4.objs.size) ⟨b7, gg, dd, k2, oo⟩
    rw [sz4]
    exact hQ x1 x2 b7 k2 px1 px2 ⟨⟨_, _, z7, .inr ⟨_, rfl⟩⟩, up _ _ S.TIz (keep _ _ S.TIz S.TITO S.TIi1 S.TIi2 hI), ⟨_, _, up _ _ S.TOz o4⟩⟩ (D1.frame _ _ _ j1 fun b hb o e => up b o (fun q => S.zf1 (q ▸ hb)) e) (D2.frame _ _ _ j2 fun b hb o e => up b o (fun q => S.zf2 (q ▸ hb)) e) t7 sz7 fun c o cz cT c1 c2 e => up c o cz (keep c o cz cT c1 c2 e)
  · replace hzg : ZipOb g0 z TI TO u true := hzg
    replace hsg : Heap.SameBut z h0 g0 := hsg
    simp only [Bool.false_eq_true, if_false]
    refine wpAny_bind ?_
    rw [← Array.forIn_toList]
    simp only [List.forIn_cons, List.forIn_nil]
    refine wpAny_bind (wpAny_bind (wpAny_holding ?_))
    show wpAny _ _ (Builtin.SmallTypes.nextOf (.ref i1) >>= _) _ _ ⟨g0, gg, dd, t0, oo⟩
    refine wpAny_bind (D1.item i _ _ _ lt1 (D1.over st1 hsg S.zf1) fun x1 b1 k1 px1 sx1 sb1 => wpAny_pure ?_)
    replace sb1 : Heap.SameBut i1 g0 b1 := sb1
    refine wpAny_pure ?_
    refine wpAny_bind (wpAny_bind (wpAny_holding ?_))
    show wpAny _ _ (Builtin.SmallTypes.nextOf (.ref i2) >>= _) _ _ ⟨b1, gg, dd, k1, oo⟩
    refine wpAny_bind (D2.item i _ _ _ lt2 (D2.over (D2.over st2 hsg S.zf2) sb1 S.sep1_2) fun x2 b3 k2 px2 sx2 sb3 => wpAny_pure ?_)
    replace sb3 : Heap.SameBut i2 b1 b3 := sb3
    refine wpAny_pure (wpAny_pure ?_)
    show wpAny _ _ (newTuple [x1, x2] >>= _) _ _ _
    refine wpAny_bind (wpAny_newTuple ?_)
    have sz4 : b3.objs.size = h0.objs.size := by rw [sb3.1, sb1.1, hsg.1]
    have keep : ∀ c o, c ≠ z → c ≠ i1 → c ≠ i2 → h0.get? c = some o → b3.get? c = some o := fun c o cz c1 c2 e => sb3.extBut _ _ c2 (sb1.extBut _ _ c1 (hsg.extBut _ _ cz e))
    have z4 : ZipOb b3 z TI TO u true := sb3.extBut _ _ S.zi2 (sb1.extBut _ _ S.zi1 hzg)
    have j1 : St1 (i + 1) b3 := D1.over sx1 sb3 S.sep2_1
    refine wpAny_pure ⟨_, rfl, ?_⟩
    show Q (.ref b3.objs.size) _
    have tp : IsTupOf2 (b3.push { cls := .type "tuple", data := .seq #[x1, x2] }) b3.objs.size x1 x2 := Heap.get?_push_size _ rfl
    have sz5 : (b3.push { cls := .type "tuple", data := .seq #[x1, x2] }).objs.size = b3.objs.size + 1 := Heap.size_push ..
    rw [sz4] at tp sz5 ⊢
    exact hQ x1 x2 _ k2 px1 px2 ⟨⟨_, _, Heap.get?_push_of_some _ z4, .inr ⟨T, eT⟩⟩, Heap.get?_push_of_some _ (keep _ _ S.TIz S.TIi1 S.TIi2 hI), ⟨_, _, Heap.get?_push_of_some _ (keep _ _ S.TOz S.Ti1 S.Ti2 hO)⟩⟩
      (D1.frame _ _ _ j1 fun b hb o e => Heap.get?_push_of_some _ e) (D2.frame _ _ _ sx2 fun b hb o e => Heap.get?_push_of_some _ e) tp sz5 fun c o cz cT c1 c2 e => Heap.get?_push_of_some _ (keep c o cz c1 c2 e)
theorem ez_zip_end {Q : Fin → Shared → Prop} (S : ZipSep2 z TI TO i1 i2 fp1 fp2) (D1 : Draws prog w A i1 fp1 n1 P1 St1) (D2 : Draws prog w A i2 fp2 n2 P2 St2)
    (Z : ZipSt s.heap z TI TO i1 i2) (st1 : St1 i s.heap) (st2 : St2 i s.heap) (le1 : i ≤ n1) (le2 : i ≤ n2) (hend : i = n1 ∨ i = n2)
    (hE : ∀ h' tk e, (∀ c o, c ≠ z → c ≠ TO → c ≠ i1 → c ≠ i2 → s.heap.get? c = some o → h'.get? c = some o) → (∃ o, h'.get? e = some o ∧ o.cls = .type "StopIteration") → E (.ref e) { s with heap := h', toks := tk }) :
    wpAny (model prog w) A (Builtin.«zip.__next__» ⟨[.ref z], []⟩) Q E s := by
  obtain ⟨h0, gg, dd, t0, oo⟩ := s
  obtain ⟨⟨u, f, hz, hu⟩, hI, ⟨a1, a2, hO⟩⟩ := Z
  replace hz : ZipOb h0 z TI TO u f := hz
  replace hI : IsTupOf2 h0 TI (.ref i1) (.ref i2) := hI
  replace hO : IsTupOf2 h0 TO a1 a2 := hO
  show wpAny _ _ (field (.ref z) 2 >>= _) _ _ _
  refine wpAny_bind (wpAny_field hz rfl (x := .bool false) rfl ?_)
  show wpAny _ _ (field (.ref z) 3 >>= _) _ _ _
  refine wpAny_bind (wpAny_field hz rfl (x := .ref TI) rfl ?_)
  refine wpAny_bind (wpAny_seqItems hI rfl ?_)
  show wpAny _ _ (Builtin.SmallTypes.ownedTupleIsFree (.ref z) >>= _) _ _ _
  refine wpAny_bind (ez_free hz hu ?_ fun T g0 eT hzg hsg => ?_)
  · simp only [if_true]
    refine wpAny_bind (wpAny_rule ?_)
    refine wpAny_bind (wpAny_field hz rfl (x := .ref TO) rfl ?_)
    refine wpAny_bind (wpAny_setField_rec hz (by simp) fun b0 zb0 sb0 => ?_)
    replace zb0 : ZipOb b0 z TI TO .ellipsis f := zb0
    replace sb0 : Heap.SameBut z h0 b0 := sb0
    refine wpAny_bind ?_
    simp only [List.zipIdx_cons, List.zipIdx_nil, List.forIn_cons, List.forIn_nil]
    refine wpAny_bind (wpAny_bind (wpAny_onRaise ?_))
    show wpAny _ _ (Builtin.SmallTypes.nextOf (.ref i1) >>= _) _ _ ⟨b0, gg, dd, t0, oo⟩
    by_cases lt1 : i < n1
    · refine wpAny_bind (D1.item i _ _ _ lt1 (D1.over st1 sb0 S.zf1) fun x1 b1 k1 px1 sx1 sb1 => wpAny_pure ?_)
      replace sb1 : Heap.SameBut i1 b0 b1 := sb1
      have o1 : IsTupOf2 b1 TO a1 a2 := sb1.extBut _ _ S.Ti1 (sb0.extBut _ _ S.TOz hO)
      refine wpAny_bind (wpAny_seqItems (s := ⟨b1, gg, dd, k1, oo⟩) o1 rfl ?_)
      refine wpAny_bind (updateSeq_IsTupOf2 (s := ⟨b1, gg, dd, k1, oo⟩) o1 fun b2 o2 sb2 => ?_)
      replace o2 : IsTupOf2 b2 TO x1 a2 := o2
      replace sb2 : Heap.SameBut TO b1 b2 := sb2
      refine wpAny_bind (wpAny_letGo (wpAny_pure ?_))
      have e2 : i = n2 := by omega
      refine wpAny_bind (wpAny_bind (wpAny_onRaise ?_))
      show wpAny _ _ (Builtin.SmallTypes.nextOf (.ref i2) >>= _) _ _ ⟨b2, gg, dd, k1, oo⟩
      refine wpAny_bind (D2.done ⟨b2, gg, dd, k1, oo⟩ _ _ (by rw [← e2]; exact (D2.over (D2.over (D2.over st2 sb0 S.zf2) sb1 S.sep1_2) sb2 S.Tf2)) fun q e hq he => ?_)
      replace hq : Heap.ExtBut i2 b2 q := hq
      obtain ⟨oe, hoe, hce⟩ := he
      replace hoe : q.get? e = some oe := hoe
      have hzq : ZipOb q z TI TO .ellipsis f := hq _ _ S.zi2 (sb2.extBut _ _ S.TOz.symm (sb1.extBut _ _ S.zi1 zb0))
      have hez : e ≠ z := fun x => by subst x; rw [hzq] at hoe; cases hoe; simp at hce
      refine wpAny_setField_rec (s := ⟨q, gg, dd, k1, oo⟩) hzq (by simp) fun q' _ hq' => ?_
      replace hq' : Heap.SameBut z q q' := hq'
      exact hE q' k1 e (fun c o cz cT c1 c2 x => hq'.extBut _ _ cz (hq _ _ c2 (sb2.extBut _ _ cT (sb1.extBut _ _ c1 (sb0.extBut _ _ cz x))))) ⟨oe, hq'.extBut _ _ hez hoe, hce⟩
    · have e1 : i = n1 := by omega
      refine wpAny_bind (D1.done ⟨b0, gg, dd, t0, oo⟩ _ _ (by rw [← e1]; exact (D1.over st1 sb0 S.zf1)) fun q e hq he => ?_)
      replace hq : Heap.ExtBut i1 b0 q := hq
      obtain ⟨oe, hoe, hce⟩ := he
      replace hoe : q.get? e = some oe := hoe
      have hzq : ZipOb q z TI TO .ellipsis f := hq _ _ S.zi1 zb0
      have hez : e ≠ z := fun x => by subst x; rw [hzq] at hoe; cases hoe; simp at hce
      refine wpAny_setField_rec (s := ⟨q, gg, dd, t0, oo⟩) hzq (by simp) fun q' _ hq' => ?_
      replace hq' : Heap.SameBut z q q' := hq'
      exact hE q' t0 e (fun c o cz cT c1 c2 x => hq'.extBut _ _ cz (hq _ _ c1 (sb0.extBut _ _ cz x))) ⟨oe, hq'.extBut _ _ hez hoe, hce⟩
  · replace hzg : ZipOb g0 z TI TO u true := hzg
    replace hsg : Heap.SameBut z h0 g0 := hsg
    simp only [Bool.false_eq_true, if_false]
    refine wpAny_bind ?_
    rw [← Array.forIn_toList]
    simp only [List.forIn_cons, List.forIn_nil]
    refine wpAny_bind (wpAny_bind (wpAny_holding ?_))
    show wpAny _ _ (Builtin.SmallTypes.nextOf (.ref i1) >>= _) _ _ ⟨g0, gg, dd, t0, oo⟩
    by_cases lt1 : i < n1
    · refine wpAny_bind (D1.item i _ _ _ lt1 (D1.over st1 hsg S.zf1) fun x1 b1 k1 px1 sx1 sb1 => wpAny_pure ?_)
      replace sb1 : Heap.SameBut i1 g0 b1 := sb1
      refine wpAny_pure ?_
      have e2 : i = n2 := by omega
      refine wpAny_bind (wpAny_bind (wpAny_holding ?_))
      show wpAny _ _ (Builtin.SmallTypes.nextOf (.ref i2) >>= _) _ _ ⟨b1, gg, dd, k1, oo⟩
      refine wpAny_bind (D2.done ⟨b1, gg, dd, k1, oo⟩ _ _ (by rw [← e2]; exact (D2.over (D2.over st2 hsg S.zf2) sb1 S.sep1_2)) fun q e hq he => ?_)
      replace hq : Heap.ExtBut i2 b1 q := hq
      exact hE q k1 e (fun c o cz cT c1 c2 x => hq _ _ c2 (sb1.extBut _ _ c1 (hsg.extBut _ _ cz x))) he
    · have e1 : i = n1 := by omega
      refine wpAny_bind (D1.done ⟨g0, gg, dd, t0, oo⟩ _ _ (by rw [← e1]; exact (D1.over st1 hsg S.zf1)) fun q e hq he => ?_)
      replace hq : Heap.ExtBut i1 g0 q := hq
      exact hE q t0 e (fun c o cz cT c1 c2 x => hq _ _ c1 (hsg.extBut _ _ cz x)) he
end
end Dz

set_option Elab.async false
set_option linter.all false
set_option maxRecDepth 100000
set_option maxHeartbeats 2000000
/-! Dz: the turns of enumerate(zip(a, b)). -/
namespace Dz
open PySem PySem.Spec PyProof.Rows L2
theorem ZipSt.over {h h' : Heap} {z TI TO i1 i2 : Addr} (Z : ZipSt h z TI TO i1 i2) (k : ∀ b, b = z ∨ b = TI ∨ b = TO → ∀ o, h.get? b = some o → h'.get? b = some o) : ZipSt h' z TI TO i1 i2 := by
  obtain ⟨⟨u, f, hz, hu⟩, hI, ⟨a1, a2, hO⟩⟩ := Z
  exact ⟨⟨u, f, k _ (.inl rfl) _ hz, hu⟩, k _ (.inr (.inl rfl)) _ hI, ⟨a1, a2, k _ (.inr (.inr rfl)) _ hO⟩⟩
section
variable {prog : Program} {w : World} {A : Around} {E : Value → Shared → Prop} {s : Shared} {e z TI TO i1 i2 : Addr} {fp1 fp2 : List Addr} {n1 n2 i : Nat} {P1 P2 : Nat → Value → Prop} {St1 St2 : Nat → Heap → Prop}
theorem ZipSt.typ (Z : ZipSt s.heap z TI TO i1 i2) : s.TypeIs (.ref z) "zip" := let ⟨⟨_, _, hz, _⟩, _, _⟩ := Z; ⟨_, hz, rfl⟩
theorem ez_next {Q : Value → Shared → Prop} (S : ZipSep2 z TI TO i1 i2 fp1 fp2) (D1 : Draws prog w A.in1 i1 fp1 n1 P1 St1) (D2 : Draws prog w A.in1 i2 fp2 n2 P2 St2)
    (Z : ZipSt s.heap z TI TO i1 i2) (st1 : St1 i s.heap) (st2 : St2 i s.heap) (lt1 : i < n1) (lt2 : i < n2)
    (hQ : ∀ x1 x2 h' tk, P1 i x1 → P2 i x2 → ZipSt h' z TI TO i1 i2 → St1 (i + 1) h' → St2 (i + 1) h' → IsTupOf2 h' s.heap.objs.size x1 x2 → h'.objs.size = s.heap.objs.size + 1 →
      (∀ c o, c ≠ z → c ≠ TO → c ≠ i1 → c ≠ i2 → s.heap.get? c = some o → h'.get? c = some o) → Q (.ref s.heap.objs.size) { s with heap := h', toks := tk }) :
    wpAny (model prog w) A (Builtin.SmallTypes.nextOf (.ref z)) Q E s := by
  unfold Builtin.SmallTypes.nextOf
  exact wpAny_bind (wpAny_callSpecial?_slot (name := Str.ofString "__next__") Z.typ F.slot_zip_next
    (wpAny_call_entry F.slot_zip_next Z.typ F.entry_zip_next (ez_zip_item S D1 D2 Z st1 st2 lt1 lt2 fun x1 x2 h' tk y1 y2 b1 b2 d1 d2 b5 b6 => wpAny_pure (hQ x1 x2 h' tk y1 y2 b1 b2 d1 d2 b5 b6)) (F.args_zip_next_1 _)))
theorem ez_stop {Q : Value → Shared → Prop} (S : ZipSep2 z TI TO i1 i2 fp1 fp2) (D1 : Draws prog w A.in1 i1 fp1 n1 P1 St1) (D2 : Draws prog w A.in1 i2 fp2 n2 P2 St2)
    (Z : ZipSt s.heap z TI TO i1 i2) (st1 : St1 i s.heap) (st2 : St2 i s.heap) (le1 : i ≤ n1) (le2 : i ≤ n2) (hend : i = n1 ∨ i = n2)
    (hE : ∀ h' tk e, (∀ c o, c ≠ z → c ≠ TO → c ≠ i1 → c ≠ i2 → s.heap.get? c = some o → h'.get? c = some o) → (∃ o, h'.get? e = some o ∧ o.cls = .type "StopIteration") → E (.ref e) { s with heap := h', toks := tk }) :
    wpAny (model prog w) A (Builtin.SmallTypes.nextOf (.ref z)) Q E s := by
  unfold Builtin.SmallTypes.nextOf
  exact wpAny_bind (wpAny_callSpecial?_slot (name := Str.ofString "__next__") Z.typ F.slot_zip_next
    (wpAny_call_entry F.slot_zip_next Z.typ F.entry_zip_next (ez_zip_end S D1 D2 Z st1 st2 le1 le2 hend hE) (F.args_zip_next_1 _)))
theorem ez_enum_item {old : Value} {Q : Value → Shared → Prop} (S : ZipSep2 z TI TO i1 i2 fp1 fp2) (D1 : Draws prog w A.in1 i1 fp1 n1 P1 St1) (D2 : Draws prog w A.in1 i2 fp2 n2 P2 St2)
    (he : IsEnum s.heap e z i old) (Z : ZipSt s.heap z TI TO i1 i2) (st1 : St1 i s.heap) (st2 : St2 i s.heap) (lt1 : i < n1) (lt2 : i < n2) (ez : e ≠ z) (eI : e ≠ TI) (eO : e ≠ TO) (e1 : e ∉ fp1) (e2 : e ∉ fp2)
    (hQ : ∀ x1 x2 h' tk, P1 i x1 → P2 i x2 → IsEnumOut h' e z ((i : Int) + 1) (.ref s.heap.objs.size) (s.heap.objs.size + 1) → ZipSt h' z TI TO i1 i2 → St1 (i + 1) h' → St2 (i + 1) h' → IsTupOf2 h' s.heap.objs.size x1 x2 →
      IsTupOf2 h' (s.heap.objs.size + 1) (.int i tk) (.ref s.heap.objs.size) → h'.objs.size = s.heap.objs.size + 2 →
      (∀ c o, c ≠ e → c ≠ z → c ≠ TO → c ≠ i1 → c ≠ i2 → s.heap.get? c = some o → h'.get? c = some o) → Q (.ref (s.heap.objs.size + 1)) { s with heap := h', toks := tk + 1 }) :
    wpAny (model prog w) A (Builtin.«enumerate.__next__» ⟨[.ref e], []⟩) (fun fin s' => ∃ v, fin = .done (.ret v) ∧ Q v s') E s := by
  obtain ⟨h0, gg, dd, t0, oo⟩ := s
  replace he : IsEnum h0 e z i old := he
  show wpAny _ _ (field (.ref e) 2 >>= _) _ _ _
  refine wpAny_bind (wpAny_field he rfl (x := .ref z) rfl ?_)
  refine wpAny_bind (ez_next S D1 D2 Z st1 st2 lt1 lt2 fun x1 x2 b1 k1 px1 px2 Z1 sx1 sx2 tp1 sz1 kp1 => ?_)
  replace tp1 : IsTupOf2 b1 h0.objs.size x1 x2 := tp1
  replace sz1 : b1.objs.size = h0.objs.size + 1 := sz1
  replace kp1 : ∀ c o, c ≠ z → c ≠ TO → c ≠ i1 → c ≠ i2 → h0.get? c = some o → b1.get? c = some o := kp1
  have n1' : e ≠ i1 := fun q => e1 (q ▸ S.mem1)
  have n2' : e ≠ i2 := fun q => e2 (q ▸ S.mem2)
  have he1 : IsEnum b1 e z i old := kp1 _ _ ez eO n1' n2' he
  have elt : e < h0.objs.size := Heap.lt_size he
  have ept : e ≠ h0.objs.size := Nat.ne_of_lt elt
  show wpAny _ _ (field (.ref e) 3 >>= _) _ _ ⟨b1, gg, dd, k1, oo⟩
  refine wpAny_bind (wpAny_field he1 rfl (x := rawInt i) rfl ?_)
  show wpAny _ _ (field (.ref e) 4 >>= _) _ _ ⟨b1, gg, dd, k1, oo⟩
  refine wpAny_bind (wpAny_field he1 rfl (x := .none) rfl ?_)
  show wpAny _ _ (mkInt i >>= _) _ _ ⟨b1, gg, dd, k1, oo⟩
  refine wpAny_bind (wpAny_mkInt ?_)
  show wpAny _ _ (setField (.ref e) 3 (rawInt ((i : Int) + 1)) >>= _) _ _ ⟨b1, gg, dd, k1 + 1, oo⟩
  refine wpAny_bind (wpAny_setField_rec he1 (by simp) fun b2 he2 sb2 => ?_)
  replace sb2 : Heap.SameBut e b1 b2 := sb2
  replace he2 : IsEnum b2 e z ((i : Int) + 1) old := he2
  show wpAny _ _ (setField (.ref e) 4 .none >>= _) _ _ ⟨b2, gg, dd, k1 + 1, oo⟩
  refine wpAny_bind (wpAny_setField_rec he2 (by simp) fun b3 he3 sb3 => ?_)
  replace sb3 : Heap.SameBut e b2 b3 := sb3
  replace he3 : IsEnum b3 e z ((i : Int) + 1) old := he3
  show wpAny _ _ (newTuple [.int i k1, .ref h0.objs.size] >>= _) _ _ ⟨b3, gg, dd, k1 + 1, oo⟩
  refine wpAny_bind (wpAny_newTuple ?_)
  have he4 : IsEnum (b3.push { cls := .type "tuple", data := .seq #[.int i k1, .ref h0.objs.size] }) e z ((i : Int) + 1) old := Heap.get?_push_of_some _ he3
  generalize eq4 : b3.push { cls := .type "tuple", data := .seq #[.int i k1, .ref h0.objs.size] } = b4 at he4
  have sz3 : b3.objs.size = h0.objs.size + 1 := by rw [sb3.1, sb2.1, sz1]
  have tp4 : IsTupOf2 b4 (h0.objs.size + 1) (.int i k1) (.ref h0.objs.size) := by rw [← eq4, ← sz3]; exact Heap.get?_push_size _ rfl
  have sz4 : b4.objs.size = h0.objs.size + 2 := by rw [← eq4, Heap.size_push, sz3]
  have kp4 : ∀ c o, c ≠ e → b1.get? c = some o → b4.get? c = some o := fun c o ce hc => by
    rw [← eq4]; exact Heap.get?_push_of_some _ (sb3.extBut c o ce (sb2.extBut c o ce hc))
  show wpAny _ _ (Builtin.SmallTypes.ownedTupleIsFree (.ref e) >>= _) _ _ ⟨b4, gg, dd, k1 + 1, oo⟩
  rw [sz3]
  refine wpAny_bind ?_
  unfold Builtin.SmallTypes.ownedTupleIsFree
  refine wpAny_bind (wpAny_field he4 rfl (x := .none) rfl (wpAny_pure ?_))
  simp only [if_true]
  refine wpAny_bind (wpAny_rule ?_)
  refine wpAny_bind (wpAny_field he4 rfl (x := old) rfl ?_)
  refine wpAny_bind (wpAny_setField_rec he4 (by simp) fun b5 he5 sb5 => ?_)
  replace sb5 : Heap.SameBut e b4 b5 := sb5
  replace he5 : IsEnum b5 e z ((i : Int) + 1) (.ref h0.objs.size) := he5
  show wpAny _ _ (Builtin.SmallTypes.ownedTupleHandOut (.ref e) (.ref (h0.objs.size + 1)) >>= _) _ _ ⟨b5, gg, dd, k1 + 1, oo⟩
  refine wpAny_bind ?_
  unfold Builtin.SmallTypes.ownedTupleHandOut
  refine wpAny_bind (wpAny_setField_rec he5 (by simp) fun b6 he6 sb6 => ?_)
  replace sb6 : Heap.SameBut e b5 b6 := sb6
  replace he6 : IsEnumOut b6 e z ((i : Int) + 1) (.ref h0.objs.size) (h0.objs.size + 1) := he6
  refine wpAny_setField_rec he6 (by simp) fun b7 he7 sb7 => ?_
  replace sb7 : Heap.SameBut e b6 b7 := sb7
  replace he7 : IsEnumOut b7 e z ((i : Int) + 1) (.ref h0.objs.size) (h0.objs.size + 1) := he7
  have kp7 : ∀ c o, c ≠ e → b4.get? c = some o → b7.get? c = some o := fun c o ce hc => sb7.extBut c o ce (sb6.extBut c o ce (sb5.extBut c o ce hc))
  have kp : ∀ c o, c ≠ e → b1.get? c = some o → b7.get? c = some o := fun c o ce hc => kp7 c o ce (kp4 c o ce hc)
  refine wpAny_bind (wpAny_letGo (wpAny_pure ⟨_, rfl, hQ x1 x2 b7 k1 px1 px2 he7 (Z1.over fun b hb o q => kp b o ?_ q) ?_ ?_ ?_ ?_ ?_ ?_⟩))
  · rcases hb with rfl | rfl | rfl
    · exact ez.symm
    · exact eI.symm
    · exact eO.symm
  · exact D1.frame _ _ _ sx1 fun b hb o y => kp b o (fun q => e1 (q ▸ hb)) y
  · exact D2.frame _ _ _ sx2 fun b hb o y => kp b o (fun q => e2 (q ▸ hb)) y
  · exact kp _ _ (Ne.symm ept) tp1
  · exact kp7 _ _ (Nat.ne_of_gt (Nat.lt_succ_of_lt elt)) tp4
  · show b7.objs.size = h0.objs.size + 2
    rw [sb7.1, sb6.1, sb5.1, sz4]
  · exact fun c o ce cz cT c1 c2 hc => kp c o ce (kp1 c o cz cT c1 c2 hc)
theorem ez_enum_end {old : Value} {Q : Option Value → Shared → Prop} (S : ZipSep2 z TI TO i1 i2 fp1 fp2) (D1 : Draws prog w A.in1.in1 i1 fp1 n1 P1 St1) (D2 : Draws prog w A.in1.in1 i2 fp2 n2 P2 St2)
    (he : IsEnum s.heap e z i old) (Z : ZipSt s.heap z TI TO i1 i2) (st1 : St1 i s.heap) (st2 : St2 i s.heap) (le1 : i ≤ n1) (le2 : i ≤ n2) (hend : i = n1 ∨ i = n2)
    (hQ : ∀ h' tk, (∀ c o, c ≠ z → c ≠ TO → c ≠ i1 → c ≠ i2 → s.heap.get? c = some o → h'.get? c = some o) → Q none { s with heap := h', toks := tk }) : wpAny (model prog w) A (pyNext (.ref e)) Q E s := by
  have hT : s.TypeIs (.ref e) "enumerate" := ⟨_, he, rfl⟩
  unfold pyNext
  refine wpAny_bind (wpAny_attempt (wpAny_callSpecial?_slot (name := Str.ofString "__next__") hT F.slot_enumerate_next
    (wpAny_call_entry F.slot_enumerate_next hT F.entry_enumerate_next ?_ (F.args_enumerate_next_1 _))))
  show wpAny _ _ (field (.ref e) 2 >>= _) _ _ _
  refine wpAny_bind (wpAny_field he rfl (x := .ref z) rfl ?_)
  refine wpAny_bind (ez_stop S D1 D2 Z st1 st2 le1 le2 hend fun h' tk x k hx => ?_)
  obtain ⟨o, ho, hc⟩ := hx
  refine wpAny_bind (wpAny_isInstance (T := "StopIteration") (b := true) ⟨o, ho, hc⟩ isSubtype_stop ?_)
  exact wpAny_pure (hQ _ _ k)
theorem ez_pyNext {old : Value} {Q : Option Value → Shared → Prop} (S : ZipSep2 z TI TO i1 i2 fp1 fp2) (D1 : Draws prog w A.in1.in1 i1 fp1 n1 P1 St1) (D2 : Draws prog w A.in1.in1 i2 fp2 n2 P2 St2)
    (he : IsEnum s.heap e z i old) (Z : ZipSt s.heap z TI TO i1 i2) (st1 : St1 i s.heap) (st2 : St2 i s.heap) (lt1 : i < n1) (lt2 : i < n2) (ez : e ≠ z) (eI : e ≠ TI) (eO : e ≠ TO) (e1 : e ∉ fp1) (e2 : e ∉ fp2)
    (hQ : ∀ x1 x2 h' tk, P1 i x1 → P2 i x2 → IsEnumOut h' e z ((i : Int) + 1) (.ref s.heap.objs.size) (s.heap.objs.size + 1) → ZipSt h' z TI TO i1 i2 → St1 (i + 1) h' → St2 (i + 1) h' → IsTupOf2 h' s.heap.objs.size x1 x2 →
      IsTupOf2 h' (s.heap.objs.size + 1) (.int i tk) (.ref s.heap.objs.size) → h'.objs.size = s.heap.objs.size + 2 →
      (∀ c o, c ≠ e → c ≠ z → c ≠ TO → c ≠ i1 → c ≠ i2 → s.heap.get? c = some o → h'.get? c = some o) → Q (some (.ref (s.heap.objs.size + 1))) { s with heap := h', toks := tk + 1 }) :
    wpAny (model prog w) A (pyNext (.ref e)) Q E s := by
  have hT : s.TypeIs (.ref e) "enumerate" := ⟨_, he, rfl⟩
  unfold pyNext
  exact wpAny_bind (wpAny_attempt (wpAny_callSpecial?_slot (name := Str.ofString "__next__") hT F.slot_enumerate_next
    (wpAny_call_entry F.slot_enumerate_next hT F.entry_enumerate_next
      (ez_enum_item S D1 D2 he Z st1 st2 lt1 lt2 ez eI eO e1 e2 fun x1 x2 h' tk a1 a2 a3 a4 a5 a6 a7 a8 a9 k => wpAny_pure (hQ x1 x2 h' tk a1 a2 a3 a4 a5 a6 a7 a8 a9 k)) (F.args_enumerate_next_1 _))))
end
/-- two new objects at once -/
theorem turned2 {X : Cx} {pins : List (Addr × Obj)} {σ : L2.St} {H : Hp} {s : Shared} {h' : Heap} {t' : Nat} {ch : List Addr} {T T2 : Addr} {ob ob2 : HO} (I : Inv X pins σ H s) (k : ∀ b o, b ∉ ch → s.heap.get? b = some o → h'.get? b = some o) (hf : ∀ b ∈ ch, FpOk X pins H b) (hT : s.heap.objs.size ≤ T) (hT2 : s.heap.objs.size ≤ T2) (ne : T2 ≠ T)
    (new : ObjOk X.prog X.w (upd (upd H T ob) T2 ob2) h' T ob) (new2 : ObjOk X.prog X.w (upd (upd H T ob) T2 ob2) h' T2 ob2) : Inv X pins σ (upd (upd H T ob) T2 ob2) { s with heap := h', toks := t' } := by
  have g1 : H T = none := I.hok.fresh hT
  have g2 : H T2 = none := I.hok.fresh hT2
  have up : ∀ {b u}, H b = some u → upd (upd H T ob) T2 ob2 b = some u := fun e => by
    rw [upd_ne (ne_of_none e g2), upd_ne (ne_of_none e g1)]; exact e
  have nit : ∀ b u, H b = some u → b ∉ ch := fun b u e z => by
    have q := (hf b z).1
    rw [q] at e; cases e
  refine I.step (g' := s.gens) (d' := s.drawn) (ch := ch) (fun b hb => ⟨(hf b hb).2.2.2.1, (hf b hb).2.1, (hf b hb).2.2.2.2.1, (hf b hb).2.2.2.2.2⟩) (fun b o _ _ hc e _ => k b o hc e) (fun b o _ _ hc e _ => ⟨o.slots, k b o hc e⟩)
    (fun b o _ e n => ?_) (fun b o hc e => ⟨o, k b o hc e⟩) (fun b xs e => up e) (fun b o u e => up e) (fun b ps e => ⟨#[], ?_⟩) (fun m hm => ?_) (fun b u e => ?_) I.bare
  · have lt := Heap.lt_size e
    rw [upd_ne (Nat.ne_of_lt (Nat.lt_of_lt_of_le lt hT2)), upd_ne (Nat.ne_of_lt (Nat.lt_of_lt_of_le lt hT))]; exact n
  · rw [up e]; simp
  · obtain ⟨o, es, ep, ho, r⟩ := hm
    exact ⟨o, es, ep, k _ o (fun z => (hf _ z).2.1 rfl) ho, r⟩
  · by_cases hb2 : b = T2
    · subst hb2
      rw [upd_same] at e
      cases e
      exact new2
    · rw [upd_ne hb2] at e
      by_cases hb : b = T
      · subst hb
        rw [upd_same] at e
        cases e
        exact new
      · rw [upd_ne hb] at e
        refine (I.hok b u e).stay (fun c v hc q => k c v ?_ q) (fun c q => up q) fun c xs q => up q
        rcases hc with z | z
        · rw [z]; exact nit b u e
        · exact nit c _ z
end Dz

set_option Elab.async false
set_option linter.all false
set_option maxRecDepth 100000
set_option maxHeartbeats 2000000
/-! Dz: for i, (x, y) in enumerate(zip(a, b)), a and b texts. -/
namespace Dz
open PySem PySem.Spec PyProof.Rows L2
open AutoSeq1 (wpAny_loadPart')
/-- enumerate(zip(x, y)) -/
def Itez (x y : Str) : L2.It :=
  ⟨fun i _ => i < x.cps.size ∧ i < y.cps.size,
    fun i H v H' => ∃ T T2 c d, v = .ref T2 ∧ H T = none ∧ H T2 = none ∧ T2 ≠ T ∧ H' = upd (upd H T (.tup [.str ⟨#[c]⟩, .str ⟨#[d]⟩])) T2 (.tup [.int (i : Nat), .ref T]) ∧ x.cps[i]? = some c ∧ y.cps[i]? = some d,
    fun i _ => i = min x.cps.size y.cps.size⟩
theorem turn_ez {P : Program} {w : World} {K : PySem.W.Frag} {elts : List Expr} {kk : Nat} {tpos : Pos} {x y : Str} {t1 t2 : Tok} {e z TI TO i1 i2 : Addr} (S : ZipSep2 z TI TO i1 i2 [i1] [i2]) (ez : e ≠ z) (eI : e ≠ TI) (eO : e ≠ TO) (e1 : e ≠ i1) (e2 : e ≠ i2) :
    Turn P w K (.Tuple elts kk tpos) (Itez x y) [e, z, TI, TO, i1, i2] e (fun i h => (∃ old, IsEnum h e z ((i : Nat) : Int) old) ∧ ZipSt h z TI TO i1 i2 ∧ h.IsStrIter i1 (strIterType x) x t1 i ∧ h.IsStrIter i2 (strIterType y) y t2 i) where
  mem := by simp
  obj := fun i h st c hc => by
    obtain ⟨⟨old, he⟩, ⟨⟨u, f, hz, _⟩, hI, ⟨a1, a2, hO⟩⟩, ⟨o1, g1, _, d1⟩, ⟨o2, g2, _, d2⟩⟩ := st
    have e' : c = e ∨ c = z ∨ c = TI ∨ c = TO ∨ c = i1 ∨ c = i2 := by simpa using hc
    rcases e' with q | q | q | q | q | q
    · rw [q]; exact ⟨_, he, fun v q => nomatch q⟩
    · rw [q]; exact ⟨_, hz, fun v q => nomatch q⟩
    · rw [q]; exact ⟨_, hI, fun v q => nomatch q⟩
    · rw [q]; exact ⟨_, hO, fun v q => nomatch q⟩
    · rw [q]; exact ⟨o1, g1, fun v q => by rw [d1] at q; cases q⟩
    · rw [q]; exact ⟨o2, g2, fun v q => by rw [d2] at q; cases q⟩
  keep := fun i h h' st k => by
    obtain ⟨⟨old, he⟩, Z, ⟨o1, g1, r1⟩, ⟨o2, g2, r2⟩⟩ := st
    exact ⟨⟨old, k e (by simp) _ he⟩, Z.over fun b hb o q => k b (by rcases hb with rfl | rfl | rfl <;> simp) o q, ⟨o1, k i1 (by simp) _ g1, r1⟩, ⟨o2, k i2 (by simp) _ g2, r2⟩⟩
  item := by
    intro X hP hw hK hc i pins s σ H E I hf st hg
    subst hP hw hK
    obtain ⟨⟨old, he⟩, Z, st1, st2⟩ := st
    have hd : X.A.in1.in1.handled = none := I.ok.hd hc
    have elt : e < s.heap.objs.size := Heap.lt_size he
    have ltf : ∀ b ∈ [e, z, TI, TO, i1, i2], b < s.heap.objs.size := fun c hc => by
      obtain ⟨⟨u, f, hz, _⟩, hI, ⟨a1, a2, hO⟩⟩ := Z
      obtain ⟨o1, g1, _⟩ := st1
      obtain ⟨o2, g2, _⟩ := st2
      have e' : c = e ∨ c = z ∨ c = TI ∨ c = TO ∨ c = i1 ∨ c = i2 := by simpa using hc
      rcases e' with q | q | q | q | q | q
      · rw [q]; exact elt
      · rw [q]; exact Heap.lt_size hz
      · rw [q]; exact Heap.lt_size hI
      · rw [q]; exact Heap.lt_size hO
      · rw [q]; exact Heap.lt_size g1
      · rw [q]; exact Heap.lt_size g2
    refine ez_pyNext S (Draws.text hd i1 x t1) (Draws.text hd i2 y t2) he Z st1 st2 hg.1 hg.2 ez eI eO (by simpa using e1) (by simpa using e2) fun x1 x2 h' tk p1 p2 ho Z' s1' s2' tp1 tp2 sz kp => ?_
    obtain ⟨c, u, hc1, rfl⟩ := p1
    obtain ⟨d, u', hd1, rfl⟩ := p2
    refine ⟨_, rfl, wpAny_letOwnedTupleGo_enum (s := { s with heap := h', toks := tk + 1 }) ho fun h'' he'' sb => ?_⟩
    replace sb : Heap.SameBut e h' h'' := sb
    have nn : ∀ k : Nat, s.heap.objs.size + k ≠ e := fun k => Nat.ne_of_gt (Nat.lt_of_lt_of_le elt (Nat.le_add_right _ k))
    have T1 : IsTupOf2 h'' s.heap.objs.size (.str ⟨#[c]⟩ u) (.str ⟨#[d]⟩ u') := (sb.2 _ (nn 0)).trans tp1
    have T2 : IsTupOf2 h'' (s.heap.objs.size + 1) (.int i tk) (.ref s.heap.objs.size) := (sb.2 _ (nn 1)).trans tp2
    have ne : s.heap.objs.size + 1 ≠ s.heap.objs.size := Nat.succ_ne_self _
    have new1 : ObjOk X.prog X.w (upd (upd H s.heap.objs.size (.tup [.str ⟨#[c]⟩, .str ⟨#[d]⟩])) (s.heap.objs.size + 1) (.tup [.int (i : Nat), .ref s.heap.objs.size])) h'' s.heap.objs.size (.tup [.str ⟨#[c]⟩, .str ⟨#[d]⟩]) :=
      ⟨by show 2 ≤ sizeLine; decide, [.str ⟨#[c]⟩ u, .str ⟨#[d]⟩ u'], .cons ⟨_, rfl⟩ (.cons ⟨_, rfl⟩ .nil), ⟨_, T1, rfl, _, rfl⟩⟩
    have new2 : ObjOk X.prog X.w (upd (upd H s.heap.objs.size (.tup [.str ⟨#[c]⟩, .str ⟨#[d]⟩])) (s.heap.objs.size + 1) (.tup [.int (i : Nat), .ref s.heap.objs.size])) h'' (s.heap.objs.size + 1) (.tup [.int (i : Nat), .ref s.heap.objs.size]) :=
      ⟨by show 2 ≤ sizeLine; decide, [.int i tk, .ref s.heap.objs.size], .cons ⟨_, rfl⟩ (.cons rfl .nil), ⟨_, T2, rfl, _, rfl⟩⟩
    have kp2 : ∀ b o, b ∉ [e, z, TI, TO, i1, i2] → s.heap.get? b = some o → h''.get? b = some o := fun b o hb q =>
      (sb.2 b (fun q' => hb (by simp [q']))).trans (kp b o (fun q' => hb (by simp [q'])) (fun q' => hb (by simp [q'])) (fun q' => hb (by simp [q'])) (fun q' => hb (by simp [q'])) (fun q' => hb (by simp [q'])) q)
    have I1 := turned2 (t' := tk + 1) I kp2 hf (Nat.le_refl _) (Nat.le_succ _) ne new1 new2
    refine ⟨.ref (s.heap.objs.size + 1), _, I1, rfl, ⟨_, _, c, d, rfl, I.hok.fresh (Nat.le_refl _), I.hok.fresh (Nat.le_succ _), ne, rfl, hc1, hd1⟩, ⟨⟨.ref s.heap.objs.size, ?_⟩, ?_, ?_, ?_⟩, fun b hb => ?_⟩
    · have e1 : ((i + 1 : Nat) : Int) = (i : Int) + 1 := by omega
      rw [e1]; exact he''
    · refine Z'.over fun b hb o q => (sb.2 b ?_).trans q
      rcases hb with rfl | rfl | rfl
      · exact ez.symm
      · exact eI.symm
      · exact eO.symm
    · obtain ⟨o1, g1, r1⟩ := s1'
      exact ⟨o1, (sb.2 _ (Ne.symm e1)).trans g1, r1⟩
    · obtain ⟨o2, g2, r2⟩ := s2'
      exact ⟨o2, (sb.2 _ (Ne.symm e2)).trans g2, r2⟩
    · have l := ltf b hb
      rw [upd_ne (Nat.ne_of_lt (Nat.lt_succ_of_lt l)), upd_ne (Nat.ne_of_lt l)]
      exact (hf b hb).1
  done := by
    intro X hP hw hK hc i pins s σ H E I hf st hg
    subst hP hw hK
    obtain ⟨⟨old, he⟩, Z, st1, st2⟩ := st
    have hd : X.A.in1.in1.handled = none := I.ok.hd hc
    have hg : i = min x.cps.size y.cps.size := hg
    exact ez_enum_end S (Draws.text hd i1 x t1) (Draws.text hd i2 y t2) he Z st1 st2 (by omega) (by omega) (by omega) fun h' tk k => ⟨rfl, I.turnedL (ch := [e, z, TI, TO, i1, i2]) (fun c o hb q =>
      k c o (fun q' => hb (by simp [q'])) (fun q' => hb (by simp [q'])) (fun q' => hb (by simp [q'])) (fun q' => hb (by simp [q'])) q) hf⟩
  self := fun A i s Q E st h => let ⟨⟨_, he⟩, _⟩ := st; wpAny_pyIter_enum he h
theorem meets_ez (z TI TO : Addr) : Meets (Builtin.«enumerate.__new__» ⟨[.type "enumerate", .ref z], []⟩) (fun _ R s => IsZip s.heap z TI TO .none ∧
      R (.ok (.ret (.ref s.heap.objs.size))) { s with heap := s.heap.push { cls := .type "enumerate", data := .fields #[.none, .bool false, .ref z, rawInt 0, .none, .none] } }) :=
  .of_wp fun prog w A R s h => by
    obtain ⟨h0, gg, dd, t0, oo⟩ := s
    obtain ⟨hl, h⟩ := h
    have hsub := sub_enumerate
    have q1 : ∀ {A' : Around} {E : Value → Shared → Prop} {Q : Value → Shared → Prop}, Q (.ref z) ⟨h0, gg, dd, t0, oo⟩ → wpAny (model prog w) A' (pyIter (.ref z)) Q E ⟨h0, gg, dd, t0, oo⟩ := fun q => wpAny_pyIter_zip hl q
    wp_walk using wpAny_loadPart' hl
    refine wpAny_stack_any fun st => wpAny_pure ?_
    split
    · rename_i c _ _ _ _ _
      cases (c == Value.type "enumerate")
      · wp_walk using wpAny_loadPart' hl, q1
        exact ⟨_, rfl, h⟩
      · wp_walk using wpAny_loadPart' hl, q1
        exact ⟨_, rfl, h⟩
    · wp_walk using wpAny_loadPart' hl, q1
      exact ⟨_, rfl, h⟩
theorem ez_begins {prog : Program} {w : World} {A : Around} {E : Value → Shared → Prop} {s : Shared} {z TI TO : Addr} {Q : Value → Shared → Prop} (hz : IsZip s.heap z TI TO .none)
    (h : ∀ h', IsEnum h' s.heap.objs.size z 0 .none → (∀ b o, s.heap.get? b = some o → h'.get? b = some o) → Q (.ref s.heap.objs.size) { s with heap := h' }) :
    wpAny (model prog w) A (call (.type "enumerate") [.ref z]) Q E s := by
  refine callType_new F.called_enumerate (by decide) (F.typeCall_enumerate_1 _) (F.newCall_enumerate_1 _) (fun obj => F.args_object_init_2 obj _) F.entry_enumerate_new
    (meets_ez z TI TO) ⟨hz, ?_⟩
  have he : IsEnum (s.heap.push { cls := .type "enumerate", data := .fields #[.none, .bool false, .ref z, rawInt 0, .none, .none] }) s.heap.objs.size z 0 .none := Heap.get?_push_size _ rfl
  exact ⟨⟨_, he, rfl⟩, h _ he fun b o y => Heap.get?_push_of_some _ y⟩
theorem pi_ez {X : Cx} {a b : Expr} {ta : TA} {p p2 pos pos2 tpos : Pos} {elts : List Expr} {kk : Nat} (hg : Gl X "enumerate") (hm : X.mg "enumerate" = none) (hg2 : Gl X "zip") (hm2 : X.mg "zip" = none) (ha : PA X [a, b] ta)
    (hs : starEach [a, b] X.env = (false, eval a X.env) :: starEach [b] X.env) (hpl : (backTo pos2 (starEach [b] X.env)).any (·.1) = false) :
    PI X (.Tuple elts kk tpos) (.Call (.Name "enumerate" p) [.Call (.Name "zip" p2) [a, b] [] pos2] [] pos) (fun σ H R => ta σ H fun vs H1 => ∃ x y, vs = [.str x, .str y] ∧ R (Itez x y) H1) := by
  refine ⟨fun pins s σ H R I h => ?_⟩
  refine Call_ (ld_blt I hg hm boot_enumerate (PyProof.Rows.callWith_type1 (PyProof.Rows.args_cons ?_ rfl) rfl rfl))
  refine Call_ (ld_blt I hg2 hm2 PyProof.Rows.boot_zip (PyProof.Rows.callWith_type1 (thn (ha.run pos2 pins s σ H _ I h) fun us s1 ⟨vs, H1, I1, r1, q1⟩ => ?_) hs hpl))
  obtain ⟨x, y, ex, q⟩ := q1
  subst ex
  cases r1 with
  | cons r rr =>
    cases rr with
    | cons r' rr =>
      cases rr
      obtain ⟨tx, rfl⟩ := r
      obtain ⟨ty, rfl⟩ := r'
      refine zip_begins2 (begins_text x tx) (begins_text y ty) trivial trivial fun h' hz hI hO g1 g2 sz k => PyProof.Rows.args_nil ?_
      refine ez_begins (s := { s1 with heap := h' }) hz fun h2 he k2 => wpAny_pyIter_enum he ?_
      have I2 : Inv X pins σ H1 { s1 with heap := h2 } := I1.kept (t' := s1.toks) fun b o q => k2 b o (k b o q)
      have sz : h'.objs.size = s1.heap.objs.size + 5 := sz
      have ne5 : ∀ {k : Nat}, k < 5 → h'.objs.size ≠ s1.heap.objs.size + k := fun hk q => by rw [sz] at q; omega
      have Sp : ZipSep2 (s1.heap.objs.size + 4) (s1.heap.objs.size + 2) (s1.heap.objs.size + 3) s1.heap.objs.size (s1.heap.objs.size + 1) [s1.heap.objs.size] [s1.heap.objs.size + 1] := zip_sep2 (fp1 := []) (fp2 := []) (by simp) (by simp)
      refine ⟨h'.objs.size, [h'.objs.size, s1.heap.objs.size + 4, s1.heap.objs.size + 2, s1.heap.objs.size + 3, s1.heap.objs.size, s1.heap.objs.size + 1], _, _, H1, rfl, I2, turn_ez (t1 := tx) (t2 := ty) Sp (ne5 (by omega)) (ne5 (by omega)) (ne5 (by omega)) (ne5 (k := 0) (by omega)) (ne5 (by omega)),
        ⟨⟨_, he⟩, ⟨⟨_, _, k2 _ _ hz, .inl rfl⟩, k2 _ _ hI, ⟨_, _, k2 _ _ hO⟩⟩, ⟨_, k2 _ _ g1, rfl, rfl⟩, ⟨_, k2 _ _ g2, rfl, rfl⟩⟩, fun c hcm => ?_, q⟩
      have hle : s1.heap.objs.size ≤ c := by
        have e' : c = h'.objs.size ∨ c = s1.heap.objs.size + 4 ∨ c = s1.heap.objs.size + 2 ∨ c = s1.heap.objs.size + 3 ∨ c = s1.heap.objs.size ∨ c = s1.heap.objs.size + 1 := by simpa using hcm
        rcases e' with z | z | z | z | z | z
        · rw [z, sz]; exact Nat.le_add_right _ _
        · rw [z]; exact Nat.le_add_right _ _
        · rw [z]; exact Nat.le_add_right _ _
        · rw [z]; exact Nat.le_add_right _ _
        · rw [z]; exact Nat.le_refl _
        · rw [z]; exact Nat.le_add_right _ _
      exact I1.fpOk hle (I1.hok.fresh hle)
theorem ezl_get : ∀ (s t : List Nat) (n k : Nat) (x : D), (ezipL n s t)[k]? = some x → ∃ c d, s[k]? = some c ∧ t[k]? = some d ∧ x = .tup [.int (n + k : Nat), .tup [.str [c], .str [d]]]
  | [], _, _, _, _, h => by simp [ezipL] at h
  | _ :: _, [], _, _, _, h => by simp [ezipL] at h
  | a :: s, b :: t, n, 0, x, h => by
    simp [ezipL] at h
    subst h
    exact ⟨a, b, rfl, rfl, rfl⟩
  | a :: s, b :: t, n, k + 1, x, h => by
    simp only [ezipL, List.getElem?_cons_succ] at h
    obtain ⟨c, d, h1, h2, rfl⟩ := ezl_get s t (n + 1) k x h
    exact ⟨c, d, by simpa using h1, by simpa using h2, by rw [show n + 1 + k = n + (k + 1) by omega]⟩
theorem ezl_len : ∀ (s t : List Nat) (n : Nat), (ezipL n s t).length = min s.length t.length
  | [], _, _ => by simp [ezipL]
  | _ :: _, [], _ => by simp [ezipL]
  | a :: s, b :: t, n => by
    simp only [ezipL, List.length_cons, ezl_len s t (n + 1)]
    omega
theorem iter_ez {K : PySem.W.Frag} {Av : As} {H : Hp} {s t : List Nat} : IterOk K Av (Itez ⟨s.toArray⟩ ⟨t.toArray⟩) (ezipL 0 s t) H := fun Av' H' st dom => by
  refine ⟨fun i hi => ?_, ?_, fun i d x H2 hd y => ?_⟩
  · rw [ezl_len] at hi
    exact ⟨by simp only [List.size_toArray]; omega, by simp only [List.size_toArray]; omega⟩
  · show _ = _
    rw [ezl_len]
    simp only [List.size_toArray]
  · obtain ⟨T, T2, c, e, rfl, hT, hT2, ne, rfl, h1, h2⟩ := y
    obtain ⟨c', e', g1, g2, rfl⟩ := ezl_get s t 0 i d hd
    have h1 : s[i]? = some c := by simpa using h1
    have h2 : t[i]? = some e := by simpa using h2
    rw [g1] at h1
    rw [g2] at h2
    cases h1
    cases h2
    have nT : ¬ Av' T := fun z => dom T z hT
    have nT2 : ¬ Av' T2 := fun z => dom T2 z hT2
    refine ⟨fun b o q => by rw [upd_ne (ne_of_none q hT2), upd_ne (ne_of_none q hT)]; exact q, ?_⟩
    refine .tup (.inl ⟨.inl upd_same, nT2⟩) (.cons ?_ (.cons (.tup (.inl ⟨.inl (by rw [upd_ne (Ne.symm ne), upd_same]), nT⟩) (.cons (.str [c]) (.cons (.str [e]) .nil))) .nil))
    rw [Nat.zero_add]
    exact .int _
section
variable {X : Cx} {B : Bs} {Γ : Sig} {pos : Pos} {a b : Expr}
theorem di_ezip {p p2 pos2 tpos : Pos} {elts : List Expr} {kk : Nat} {m m2 : M D} (hg : Gl X "enumerate") (hm : X.mg "enumerate" = none) (hg2 : Gl X "zip") (hm2 : X.mg "zip" = none) (hst : noStar a = true ∧ noStar b = true) (ha : PE X a (tO (cf X B) m)) (hb : PE X b (tO (cf X B) m2)) :
    PI X (.Tuple elts kk tpos) (.Call (.Name "enumerate" p) [.Call (.Name "zip" p2) [a, b] [] pos2] [] pos) (tI (cf X B) (ezipF m m2)) := by
  have s1 := star1 (es := [b]) (env := X.env) hst.1
  have s2 := star1 (es := []) (env := X.env) hst.2
  refine (pi_ez hg hm hg2 hm2 (pa_cons ha (pa_cons hb pa_nil s2) s1) s1 (by rw [s2]; rfl)).mono fun σ H R ⟨A0, F, env, w, q⟩ => tO_fz w q fun v H1 F1 env1 d t w1 pu q1 => tO_fz w1 q1 fun v2 H2 F2 env2 d2 t2 w2 pu2 q2 => ?_
  cases d <;> cases d2 <;> first | exact (tAt_fail q2).elim | skip
  simp only at q2
  split at q2
  · cases pu
    cases pu2
    exact ⟨_, _, rfl, tAt_ret q2 _ H2 F2 Tr.refl w2 iter_ez⟩
  · exact (tAt_fail q2).elim
end
end Dz

set_option Elab.async false
set_option linter.all false
set_option maxRecDepth 100000
/-! Dz, part 13: a text of the model's language, read as a text of the small one. -/
namespace Dz
open PySem L2

/-- the names of the program's defs, of its exceptions' classes, of the law's own tellers -/
structure Tx where
  fs : List Str
  xs : List Str
  ts : List Str

def isV (sc : Scope) (x : Str) : Bool := match sc.names.lookup x with
  | some .local => true
  | some .cell => true
  | some .free => true
  | _ => false
def isL (top : Bool) (sc : Scope) (x : Str) : Bool := match sc.names.lookup x with
  | some .local => true
  | some .cell => top
  | _ => false
def isG (sc : Scope) (x : Str) : Bool := match sc.names.lookup x with
  | some .globalImplicit => true
  | _ => false
/-- the slot of a name -/
def slotOf (N : List Str) (x : Str) : Option Nat := let i := N.idxOf x; if N[i]? = some x then some i else none
def plainName (x : Str) : Bool := !(x == ("__debug__" : Str)) && !(x == ("__classdict__" : Str))
def trV (N : List Str) (sc : Scope) (x : Str) : Option Nat := if isV sc x && plainName x then slotOf N x else none
def trL (N : List Str) (top : Bool) (sc : Scope) (x : Str) : Option Nat := if isL top sc x && plainName x then slotOf N x else none
def idx? (l : List Str) (x : Str) : Option Nat := let i := l.idxOf x; if l[i]? = some x then some i else none

def trOp : Operator → Option Op2
  | .Add => some .add
  | .Sub => some .sub
  | .Mult => some .mul
  | .FloorDiv => some .fdiv
  | .Mod => some .mod
  | .Pow => some .pow
  | _ => none
def trOpI : Operator → Option Op2
  | .Add => some .add
  | .Sub => some .sub
  | _ => none
def trCm : CmpOp → Option Cm
  | .Lt => some .lt
  | .LtE => some .le
  | .Gt => some .gt
  | .GtE => some .ge
  | .Eq => some .eq
  | .NotEq => some .ne
  | _ => none
def trC : Const → Option D
  | .none => some .non
  | .bool b => some (.bl b)
  | .int i => some (.int i)
  | .str s => some (.str s.cps.toList)
  | _ => none
def bis : List Bi := [.len, .int, .abs, .min, .max, .tuple, .repr]
def trBi (x : Str) : Option Bi := bis.find? fun f => decide ((biV f).1 = x)
/-- the block's own names, with their slots -/
def ownOf (N : List Str) (scope : Scope) : List (Str × Nat) := scope.names.filterMap fun (n, k) =>
  if (k == .local || k == .cell) && decide (n ∈ N) then some (n, N.idxOf n) else none

mutual
def trT (N : List Str) (top : Bool) (sc : Scope) : Expr → Option T
  | .Name x _ => (trL N top sc x).map .nm
  | .Tuple es _ _ => (trTs N top sc es).map .tp
  | _ => none
def trTs (N : List Str) (top : Bool) (sc : Scope) : List Expr → Option Ts
  | [] => some .nil
  | e :: es => (trT N top sc e).bind fun t => (trTs N top sc es).map fun ts => .cons t ts
end
/-- enumerate(zip(..)) is stored to a tuple -/
def okTg : It → T → Bool
  | .ezip _ _, .nm _ => false
  | _, _ => true
def isMinus1 : Expr → Bool
  | .UnaryOp .USub (.Constant (.int 1) _ _) _ => true
  | _ => false
def isAbs : E → Bool
  | .abs => true
  | _ => false
def isCall : Expr → Bool
  | .Call .. => true
  | _ => false
def lamArgs : Arguments → Bool
  | ⟨[], [], none, [], [], none, []⟩ => true
  | _ => false
mutual
def trE (Z : Tx) (N : List Str) (top : Bool) (sc : Scope) : Expr → Option E
  | .Constant c _ _ => (trC c).map .cst
  | .Name x _ => (trV N sc x).map .var
  | .BinOp a op b _ => (trOp op).bind fun o => (trE Z N top sc a).bind fun a => (trE Z N top sc b).map fun b => .bin o a b
  | .UnaryOp op a _ => match op with
    | .USub => (trE Z N top sc a).map .neg
    | .Not => (trE Z N top sc a).map .not_
    | _ => none
  | .Compare a ops cs _ => match ops, cs with
    | [op], [b] => (trCm op).bind fun c => (trE Z N top sc a).bind fun a => (trE Z N top sc b).map fun b => .cmp c a b
    | _, _ => none
  | .BoolOp op es _ => match op, es with
    | .And, e :: es => (trE Z N top sc e).bind fun a => trAnd Z N top sc a es
    | .Or, e :: es => (trE Z N top sc e).bind fun a => trOr Z N top sc a es
    | _, _ => none
  | .IfExp c a b _ => (trE Z N top sc c).bind fun c => (trE Z N top sc a).bind fun a => (trE Z N top sc b).map fun b => .ite c a b
  | .Tuple es _ _ => (trEs Z N top sc es).map .tup
  | .List es _ => (trEs Z N top sc es).map .lst
  | .Subscript a b _ => match b with
    | .Slice lo hi st _ => (trE Z N top sc a).bind fun a => match st with
      | some e => if lo.isNone && hi.isNone && isMinus1 e then some (.rev a) else none
      | none => (trO Z N top sc lo).bind fun l => (trO Z N top sc hi).map fun h => .slc a l h
    | b => (trE Z N top sc a).bind fun a => (trE Z N top sc b).map fun b => .idx a b
  | .Call f es ks p => match f, ks with
    | .Name x _, [] => if isG sc x && plainName x then
        match es with
        | [.Lambda as body scope _] => if top && lamArgs as && LamX.lamSB sc scope then (idx? Z.ts x).bind fun k => (trE Z N false scope body).map fun e => .heard k e else none
        | [] => (idx? Z.fs x).map fun k => .call k .nil
        | e :: es => match idx? Z.fs x with
          | some k => (trE Z N top sc e).bind fun a => (trEs Z N top sc es).map fun es => .call k (.cons a es)
          | none => (trBi x).bind fun f => (trE Z N top sc e).bind fun a => (trEs Z N top sc es).map fun es => .bi f (.cons a es)
      else none
    | .Attribute o m ap, [] => match es with
      | [e] => if decide (m = ("join" : Str)) && !isCall o && (ap.endLine == p.line) then (trE Z N top sc o).bind fun o => (trE Z N top sc e).map fun e => .meth .join o (.cons e .nil) else none
      | _ => none
    | _, _ => none
  | .ListComp elt gens scope _ => trG Z N top sc gens scope (trE Z N false (relS scope sc) elt)
  | _ => none
def trG (Z : Tx) (N : List Str) (top : Bool) (sc : Scope) (gens : List Comprehension) (scope : Scope) (elt : Option E) : Option E := match gens with
  | [⟨tg, it, ifs, n⟩] => if n = 0 && blkC N sc scope (ownOf N scope) then
      ((trI Z N top sc it).or ((trE Z N top sc it).map .e)).bind fun i => (trT N false (relS scope sc) tg).bind fun t => if okTg i t then (trEs Z N false (relS scope sc) ifs).bind fun cs => elt.map fun e => .comp t i cs e ((ownOf N scope).map (·.2)) else none
    else none
  | _ => none
def trEs (Z : Tx) (N : List Str) (top : Bool) (sc : Scope) : List Expr → Option Es
  | [] => some .nil
  | e :: es => (trE Z N top sc e).bind fun e => (trEs Z N top sc es).map fun es => .cons e es
def trAnd (Z : Tx) (N : List Str) (top : Bool) (sc : Scope) (a : E) : List Expr → Option E
  | [] => none
  | e :: es => (trE Z N top sc e).bind fun b => (match es with
    | [] => some b
    | _ => trAnd Z N top sc b es).map fun b => .and_ a b
def trOr (Z : Tx) (N : List Str) (top : Bool) (sc : Scope) (a : E) : List Expr → Option E
  | [] => none
  | e :: es => (trE Z N top sc e).bind fun b => (match es with
    | [] => some b
    | _ => trOr Z N top sc b es).map fun b => .or_ a b
def trO (Z : Tx) (N : List Str) (top : Bool) (sc : Scope) : Option Expr → Option E
  | none => some .abs
  | some e => (trE Z N top sc e).bind fun s => if isAbs s then none else some s
def trI (Z : Tx) (N : List Str) (top : Bool) (sc : Scope) : Expr → Option It
  | .Call f es ks _ => match f, ks with
    | .Name x _, [] => if isG sc x then
        match es with
        | [a] => if decide (x = ("range" : Str)) then (trE Z N top sc a).map .range1 else if decide (x = ("enumerate" : Str)) then
            match a with
            | .Call (.Name y _) [c, d] [] _ => if isG sc y && decide (y = ("zip" : Str)) then (trE Z N top sc c).bind fun c => (trE Z N top sc d).map fun d => .ezip c d else none
            | _ => none
          else none
        | [a, b] => if decide (x = ("range" : Str)) then (trE Z N top sc a).bind fun a => (trE Z N top sc b).map fun b => .range2 a b else none
        | _ => none
      else none
    | _, _ => none
  | _ => none
end
/-! ### statements -/
def isComp : Expr → Bool
  | .ListComp .. => true
  | _ => false
def isVarE : E → Bool
  | .var _ => true
  | _ => false
def locN (sc : Scope) : Expr → Bool
  | .Name x _ => decide (sc.names.lookup x = some .local)
  | _ => false
def isTup : Expr → Bool
  | .Tuple .. => true
  | _ => false
/-- a comprehension stored as it is made -/
def swC (sc : Scope) (x : Str) (px : Pos) : Expr → Bool
  | .ListComp _ _ scope lp => decide (sc.names.lookup x = some .local) && (px.line == lp.line) && !(scope.names.any fun (n, k) => n == x && (k == .local || k == .cell))
  | _ => false
mutual
def trS (Z : Tx) (N : List Str) (sc : Scope) : Stmt → Option S
  | .Assign tgs e _ => match tgs with
    | [.Name x _] => (trL N true sc x).bind fun i => (trE Z N true sc e).map fun s => .asg i s
    | [.Subscript (.Name x _) k _] => if isComp e then none else (trV N sc x).bind fun i => (trE Z N true sc k).bind fun k => (trE Z N true sc e).map fun s => .setIx i k s
    | [.Tuple es j p] => match es, e with
      | [.Name x px, .Name y py], .Tuple [a, b] k2 p2 =>
        if locN sc (.Name x px) && locN sc (.Name y py) then
          if (px.line == py.line) && decide (x ≠ y) && ![a, b].all (foldedForSure 8) && ![a, b].all (constantsAlone 8) then
            (trL N true sc x).bind fun i => (trL N true sc y).bind fun j => (trE Z N true sc a).bind fun a => (trE Z N true sc b).map fun b => .par i j a b
          else none
        else (trTs N true sc es).bind fun ts => (trE Z N true sc e).map fun s => .asgT ts s
      | es, e => if isTup e || isComp e then none else (trTs N true sc es).bind fun ts => (trE Z N true sc e).map fun s => .asgT ts s
    | _ => none
  | .AugAssign t op e _ => match t with
    | .Name x _ => (trOpI op).bind fun o => (trL N true sc x).bind fun i => (trE Z N true sc e).map fun s => .aug i o s
    | .Subscript (.Name x _) k _ => (trOpI op).bind fun o => (trV N sc x).bind fun i => (trE Z N true sc k).bind fun k => (trE Z N true sc e).map fun s => .augIx i k o s
    | _ => none
  | .Return o _ => match o with
    | none => some (.ret (.cst .non))
    | some e => match e with
      | .Name x _ => (trV N sc x).map fun i => .ret (.var i)
      | e => (trE Z N true sc e).bind fun s => if isVarE s then none else some (.ret s)
  | .Expr e _ => match e with
    | .Call (.Attribute (.Name x _) m ap) [a] [] cp =>
      if decide (m = ("append" : Str)) && (ap.endLine == cp.line) then (trV N sc x).bind fun i => (trE Z N true sc a).map fun s => .mut .append i (.cons s .nil) else none
    | e => if isComp e then none else (trE Z N true sc e).map .expr
  | .If c a b _ => (trE Z N true sc c).bind fun c => (trSs Z N sc a).bind fun a => (trSs Z N sc b).map fun b => .if_ c a b
  | .While c b o _ => match o with
    | [] => (trE Z N true sc c).bind fun c => (trSs Z N sc b).map fun b => .while_ c b
    | _ => none
  | .For t it b o _ => match o with
    | [] => ((trI Z N true sc it).or ((trE Z N true sc it).map .e)).bind fun i => (trT N true sc t).bind fun t => if okTg i t then (trSs Z N sc b).map fun b => .for_ t i b else none
    | _ => none
  | .Raise e c _ => match e, c with
    | some (.Call (.Name x _) [a] [] _), none => if isG sc x then (idx? Z.xs x).bind fun k => (trE Z N true sc a).map fun s => .raise_ k s else none
    | _, _ => none
  | .Pass _ => some .pass
  | .Break _ => some .brk
  | .Continue _ => some .cont
  | _ => none
def trSs (Z : Tx) (N : List Str) (sc : Scope) : List Stmt → Option Ss
  | [] => some .nil
  | s :: ss => (trS Z N sc s).bind fun s => (trSs Z N sc ss).map fun ss => .cons s ss
end
end Dz

set_option Elab.async false
set_option linter.all false
set_option maxRecDepth 100000
set_option maxHeartbeats 2000000
/-! Dz, part 14: what is read so, is so. -/
namespace Dz
open PySem PySem.Spec PyProof.Rows L2

/-- x(lambda: ..), x the law's own def that tells how a call ends -/
def HeardAt (fl : Nat) (X : Cx) (B : Bs) (Γ : Sig) (k : Nat) (x : Str) : Prop :=
  ∀ (as : Arguments) (body : Expr) (scope : Scope) (lpos p pos : Pos) (m : M D), lamArgs as = true → LamX.LamS X.env.scope scope → isG X.env.scope x = true →
    (∀ (A : Around) (outer : List PySem.Env) (s : Shared) (H : Hp) (E : XK) (f c' : Addr), A.guards = some [] → Room fl (A.deeper (LamX.lamEnv X scope s.heap.objs.size f c')) →
      PE (LamX.lamCx X A outer s H E scope f c') body (tO ⟨X.K, B.T, B.P, fun cls d _ H => E cls d H, B.ec⟩ m)) →
    PE X (.Call (.Name x p) [.Lambda as body scope lpos] [] pos) (tO (cf X B) (heardF Γ k m))
/-- what the place asks where a text runs -/
structure Gd (Z : Tx) (Γ : Sig) (N : List Str) (top : Bool) (fl : Nat) (sc : Scope) (X : Cx) (B : Bs) : Prop where
  hN : X.N = N
  nd : N.Nodup
  hsc : X.env.scope = sc
  kind : sc.kind = .function
  calm : X.calm = true
  gd : X.A.guards = some []
  room : Room fl X.A
  pin : PinOk Γ B.P
  tk : Takes X B.W
  fns : ∀ f F, Γ.fn f = some F → ∀ x, Z.fs[f]? = some x → FnAt X B F fl x
  blt : ∀ f, X.mg (biV f).1 = none
  rng : X.mg "range" = none
  enu : X.mg "enumerate" = none ∧ X.mg "zip" = none
  fnc : top = true → ∀ x, sc.names.lookup x = some .cell → X.fn x = true
  own : top = true → PassesOwn (model X.prog X.w) X.A X.env X.xe
  hrd : top = true → ∀ k x, Z.ts[k]? = some x → HeardAt fl X B Γ k x
  mkx : top = true → ∀ c x, Z.xs[c]? = some x → ∃ C f, B.ec c = some (C, f) ∧ (isG sc x = true → MkX X C f x)
section
variable {Z : Tx} {Γ : Sig} {N : List Str} {top : Bool} {fl : Nat} {sc : Scope} {X : Cx} {B : Bs}
theorem Gd.units (g : Gd Z Γ N top fl sc X B) : X.A.units + 70 < cLine := by have := g.room.un; omega
/-- in a comprehension's block -/
theorem Gd.blk {scope : Scope} {s : Shared} {H : Hp} {C : Addr} {cl : List (Str × Addr)} {fp : List Addr} (g : Gd Z Γ N top fl sc X B) (hk : scope.kind = .function) :
    Gd Z Γ N false fl (relS scope sc) (X.blk s H scope (compEnvC scope cl C X.env) fp) B.nox where
  hN := g.hN
  nd := g.nd
  hsc := by rw [← g.hsc]; rfl
  kind := hk
  calm := g.calm
  gd := g.gd
  room := g.room
  pin := g.pin
  tk := LamX.takes0
  fns := fun f F hf x hx => ⟨(g.fns f F hf x hx).ex⟩
  blt := g.blt
  rng := g.rng
  enu := g.enu
  fnc := fun h => by cases h
  own := fun h => by cases h
  hrd := fun h => by cases h
  mkx := fun h => by cases h
/-- in a lambda's body -/
theorem Gd.lam {scope : Scope} {A : Around} {outer : List PySem.Env} {s : Shared} {H : Hp} {E : XK} {f c' : Addr} (g : Gd Z Γ N top fl sc X B) (hk : scope.kind = .function) (hgd : A.guards = some []) (hr : Room fl (A.deeper (LamX.lamEnv X scope s.heap.objs.size f c'))) :
    Gd Z Γ N false fl scope (LamX.lamCx X A outer s H E scope f c') ⟨B.T, B.P, fun cls d _ H => E cls d H, B.ec⟩ where
  hN := g.hN
  nd := g.nd
  hsc := rfl
  kind := hk
  calm := rfl
  gd := hgd
  room := hr
  pin := g.pin
  tk := takes_of rfl rfl rfl rfl
  fns := fun f F hf x hx => ⟨(g.fns f F hf x hx).ex⟩
  blt := g.blt
  rng := g.rng
  enu := g.enu
  fnc := fun h => by cases h
  own := fun h => by cases h
  hrd := fun h => by cases h
  mkx := fun h => by cases h
theorem isV_vis {x : Str} (h : isV sc x = true) : Vis sc x := by
  unfold isV at h
  split at h <;> first | exact .inl (by assumption) | exact .inr (.inl (by assumption)) | exact .inr (.inr (by assumption)) | cases h
theorem isL_loc {x : Str} (h : isL top sc x = true) : sc.names.lookup x = some .local ∨ (sc.names.lookup x = some .cell ∧ top = true) := by
  unfold isL at h
  split at h <;> first | exact .inl (by assumption) | exact .inr ⟨by assumption, h⟩ | cases h
theorem isG_gl {x : Str} (g : X.env.scope = sc) (h : isG sc x = true) : Gl X x := by
  unfold isG at h
  subst g
  split at h <;> first | (exact (by assumption : X.env.scope.names.lookup x = some .globalImplicit)) | cases h
theorem slot_get {x : Str} {i : Nat} (h : slotOf N x = some i) : N[i]? = some x := by
  unfold slotOf at h
  simp only at h
  split at h
  · cases h; assumption
  · cases h
theorem idx_get {l : List Str} {x : Str} {i : Nat} (h : idx? l x = some i) : l[i]? = some x := by
  unfold idx? at h
  simp only at h
  split at h
  · cases h; assumption
  · cases h
theorem plain_db {x : Str} (h : plainName x = true) : (x == ("__debug__" : Str)) = false ∧ (x == ("__classdict__" : Str)) = false := by
  unfold plainName at h
  rw [Bool.and_eq_true, Bool.not_eq_true', Bool.not_eq_true'] at h
  exact h
theorem trV_ok {x : Str} {i : Nat} (h : trV N sc x = some i) : N[i]? = some x ∧ Vis sc x ∧ (x == ("__debug__" : Str)) = false ∧ (x == ("__classdict__" : Str)) = false := by
  unfold trV at h
  split at h
  · rename_i h1
    rw [Bool.and_eq_true] at h1
    exact ⟨slot_get h, isV_vis h1.1, plain_db h1.2⟩
  · cases h
theorem trL_ok {x : Str} {i : Nat} (h : trL N top sc x = some i) : N[i]? = some x ∧ (sc.names.lookup x = some .local ∨ (sc.names.lookup x = some .cell ∧ top = true)) := by
  unfold trL at h
  split at h
  · rename_i h1
    rw [Bool.and_eq_true] at h1
    exact ⟨slot_get h, isL_loc h1.1⟩
  · cases h
/-! ### targets -/
def OkT (Z : Tx) (Γ : Sig) (N : List Str) (top : Bool) (sc : Scope) (e : Expr) (t : T) : Prop := noStar e = true ∧ ∀ fl X B, Gd Z Γ N top fl sc X B → PG X e (gT (cf X B) Γ.pin t)
def OkTs (Z : Tx) (Γ : Sig) (N : List Str) (top : Bool) (sc : Scope) (es : List Expr) (ts : Ts) : Prop := es.all noStar = true ∧ es.length = ts.len ∧ ∀ fl X B, Gd Z Γ N top fl sc X B → PGs X es (gTs (cf X B) Γ.pin ts)
theorem ae_cons {e : Expr} {es : List Expr} {env : PySem.Env} (h : noStar e = true) : assignEach (e :: es) env = (false, assign e env) :: assignEach es env := by
  cases e <;> first | rfl | cases h
theorem ae_len {env : PySem.Env} : ∀ {es : List Expr}, es.all noStar = true → (assignEach es env).length = es.length ∧ (assignEach es env).findIdx? (·.1) = none
  | [], _ => ⟨rfl, rfl⟩
  | e :: es, h => by
    simp only [List.all_cons, Bool.and_eq_true] at h
    obtain ⟨h1, h2⟩ := ae_len (env := env) h.2
    rw [ae_cons h.1]
    refine ⟨by simp [h1], ?_⟩
    rw [List.findIdx?_cons]
    simp [h2]
mutual
theorem trT_ok : ∀ (e : Expr) {t : T}, trT N top sc e = some t → OkT Z Γ N top sc e t
  | .Name x p, t, h => by
    rw [trT] at h
    obtain ⟨i, hi, rfl⟩ := Option.map_eq_some_iff.mp h
    obtain ⟨h1, h2⟩ := trL_ok hi
    refine ⟨rfl, fun fl X B g => ?_⟩
    have gN := g.hN
    have gs := g.hsc
    subst gN gs
    refine dg_name g.pin g.nd h1 (h2.imp id (·.1)) ?_
    rcases h2 with h2 | h2
    · exact .inr h2
    · exact .inl (g.fnc h2.2 _ h2.1)
  | .Tuple es k p, t, h => by
    rw [trT] at h
    obtain ⟨ts, hi, rfl⟩ := Option.map_eq_some_iff.mp h
    obtain ⟨h1, h2, h3⟩ := trTs_ok es hi
    refine ⟨rfl, fun fl X B g => ?_⟩
    obtain ⟨l1, l2⟩ := ae_len (env := X.env) h1
    exact dg_tup g.calm (h3 fl X B g) (by rw [l1, h2]) l2
  | .BoolOp .., t, h | .NamedExpr .., t, h | .BinOp .., t, h | .UnaryOp .., t, h | .Lambda .., t, h | .IfExp .., t, h | .Dict .., t, h | .Set .., t, h | .ListComp .., t, h | .SetComp .., t, h | .DictComp .., t, h | .GeneratorExp .., t, h
  | .Await .., t, h | .Yield .., t, h | .YieldFrom .., t, h | .Compare .., t, h | .Call .., t, h | .FormattedValue .., t, h | .JoinedStr .., t, h | .Constant .., t, h | .Attribute .., t, h | .Subscript .., t, h | .Starred .., t, h | .List .., t, h | .Slice .., t, h => by
    simp [trT] at h
theorem trTs_ok : ∀ (es : List Expr) {ts : Ts}, trTs N top sc es = some ts → OkTs Z Γ N top sc es ts
  | [], ts, h => by
    rw [trTs] at h
    cases h
    exact ⟨rfl, rfl, fun fl X B g => dgs_nil⟩
  | e :: es, ts, h => by
    rw [trTs] at h
    obtain ⟨t, h1, h⟩ := Option.bind_eq_some_iff.mp h
    obtain ⟨ts', h2, rfl⟩ := Option.map_eq_some_iff.mp h
    obtain ⟨a1, a2⟩ := trT_ok e h1
    obtain ⟨b1, b2, b3⟩ := trTs_ok es h2
    refine ⟨by rw [List.all_cons, a1, b1]; rfl, by simp [Ts.len, b2], fun fl X B g => ?_⟩
    exact dgs_cons (a2 fl X B g) (b3 fl X B g) (by rw [ae_cons a1]; rfl)
end
/-! ### expressions -/
def OkE (Z : Tx) (Γ : Sig) (N : List Str) (top : Bool) (sc : Scope) (e : Expr) (s : E) : Prop := noStar e = true ∧
  ∀ fl X B, Gd Z Γ N top fl sc X B → PE X e (tO (cf X B) (ev Γ s).1) ∧ PE X e (tP (cf X B) (rdF s (ev Γ s).1)) ∧ PT X e (tTst (cf X B) (ev Γ s).2)
def OkEs (Z : Tx) (Γ : Sig) (N : List Str) (top : Bool) (sc : Scope) (es : List Expr) (ss : Es) : Prop := (es.all noStar = true ∧ (ss = .nil → es = [])) ∧
  ∀ fl X B, Gd Z Γ N top fl sc X B → PA X es (tArgs (cf X B) (evs Γ ss)) ∧ PA X es (tOpds (cf X B) (evR Γ ss)) ∧ (∀ ms, PA X es (tOpds (cf X B) (evA Γ ss ms))) ∧ PTs X es (tTst (cf X B) (evC Γ ss))
def OkO (Z : Tx) (Γ : Sig) (N : List Str) (top : Bool) (sc : Scope) (o : Option Expr) (s : E) : Prop := ∀ fl X B, Gd Z Γ N top fl sc X B → PDo X B o (partF s (ev Γ s).1)
/-- what may be stored to -/
def TgI : It → Expr → Prop
  | .ezip _ _, tg => ∃ es k p, tg = .Tuple es k p
  | _, _ => True
theorem tgI_of {e : Expr} {t : T} {i : It} {N : List Str} {top : Bool} {sc : Scope} (h : trT N top sc e = some t) (o : okTg i t = true) : TgI i e := by
  cases i with
  | ezip a b =>
    cases t with
    | nm _ => cases o
    | tp ts => cases e <;> first | exact ⟨_, _, _, rfl⟩ | (simp [trT] at h)
  | _ => trivial
def OkI (Z : Tx) (Γ : Sig) (N : List Str) (top : Bool) (sc : Scope) (e : Expr) (i : It) : Prop := (∀ env x, foldedSetIterable e env x = pure x) ∧ ∀ fl X B, Gd Z Γ N top fl sc X B → ∀ tg, TgI i tg → PI X tg e (tI (cf X B) (evI Γ i))
theorem tst_fail {C : Cf} {e : Expr} : PT X e (tTst C M.fail) := ⟨fun _ _ _ _ _ _ ⟨_, _, _, _, q⟩ => (tAt_fail q).elim⟩
theorem pe_fail {C : Cf} {e : Expr} : PE X e (tO C M.fail) := ⟨fun _ _ _ _ _ _ ⟨_, _, _, _, q⟩ => (tAt_fail q).elim⟩
theorem pa_fail {C : Cf} {es : List Expr} : PA X es (tOpds C M.fail) := ⟨fun _ _ _ _ _ _ _ ⟨_, _, _, _, q⟩ => (tAt_fail q).elim⟩
theorem okV {e : Expr} {s : E} {m : M D} (hs : ev Γ s = asV m) (hr : ∀ m, rdF s m = frozen m) (hst : noStar e = true) (he : ∀ env whole, isTrue e env whole = (do let v ← whole; standAt e.pos; holding [v] (truthy v)))
    (h : ∀ fl X B, Gd Z Γ N top fl sc X B → PE X e (tO (cf X B) m)) : OkE Z Γ N top sc e s := by
  refine ⟨hst, fun fl X B g => ?_⟩
  rw [hs, hr]
  have := h fl X B g
  exact ⟨this, pe_opd this, dt_val (pe_opd this) (he X.env)⟩
theorem ok_const {c : Const} {k : Nat} {p : Pos} {d : D} (h : trC c = some d) : OkE Z Γ N top sc (.Constant c k p) (.cst d) := by
  refine okV (by rw [ev]) (fun _ => rfl) rfl (fun _ _ => rfl) fun fl X B g => ?_
  cases c <;> simp only [trC] at h <;> first | cases h; done | skip
  all_goals cases h
  · exact de_non
  · exact de_bl
  · exact de_int
  · exact de_str
theorem ok_name {x : Str} {p : Pos} {i : Nat} (h : trV N sc x = some i) : OkE Z Γ N top sc (.Name x p) (.var i) := by
  obtain ⟨h1, h2, h3, h4⟩ := trV_ok h
  refine ⟨rfl, fun fl X B g => ?_⟩
  have gN := g.hN
  have gs := g.hsc
  subst gN gs
  rw [ev]
  exact ⟨de_var h1 h2 h3 h4, dp_var h1 h2 h3 h4, dt_val (dp_var h1 h2 h3 h4) fun _ => rfl⟩
section
variable {a b c e : Expr} {s t u : E} {p : Pos}
theorem ok_bin {op : Operator} {o : Op2} (ho : trOp op = some o) (ha : OkE Z Γ N top sc a s) (hb : OkE Z Γ N top sc b t) : OkE Z Γ N top sc (.BinOp a op b p) (.bin o s t) :=
  okV (by rw [ev]) (fun _ => rfl) rfl (fun _ _ => rfl) fun fl X B g => de_bin (op := op) (o := o) (by cases op <;> first | exact ho | cases ho) (ha.2 fl X B g).2.1 (hb.2 fl X B g).2.1
theorem ok_neg (ha : OkE Z Γ N top sc a s) : OkE Z Γ N top sc (.UnaryOp .USub a p) (.neg s) :=
  okV (by rw [ev]) (fun _ => rfl) rfl (fun _ _ => rfl) fun fl X B g => de_neg (ha.2 fl X B g).1
theorem ok_not (ha : OkE Z Γ N top sc a s) : OkE Z Γ N top sc (.UnaryOp .Not a p) (.not_ s) := by
  refine ⟨rfl, fun fl X B g => ?_⟩
  rw [ev]
  have := de_not (B := B) (pos := p) (ha.2 fl X B g).2.1
  exact ⟨this, pe_opd this, dt_not (ha.2 fl X B g).2.2⟩
theorem ok_cmp {op : CmpOp} {k : Cm} (ho : trCm op = some k) (ha : OkE Z Γ N top sc a s) (hb : OkE Z Γ N top sc b t) : OkE Z Γ N top sc (.Compare a [op] [b] p) (.cmp k s t) := by
  refine ⟨rfl, fun fl X B g => ?_⟩
  rw [ev]
  have := de_compare (B := B) (pos := p) (op := op) (k := k) (by have := g.units; omega) (by cases op <;> first | exact ho | cases ho) (ha.2 fl X B g).2.1 (hb.2 fl X B g).2.1
  exact ⟨this.1, pe_opd this.1, this.2⟩
theorem ok_ite (hc : OkE Z Γ N top sc c u) (ha : OkE Z Γ N top sc a s) (hb : OkE Z Γ N top sc b t) : OkE Z Γ N top sc (.IfExp c a b p) (.ite u s t) := by
  refine ⟨rfl, fun fl X B g => ?_⟩
  rw [ev]
  have := de_ite (B := B) (pos := p) (hc.2 fl X B g).2.2 (ha.2 fl X B g).1 (hb.2 fl X B g).1
  exact ⟨this, pe_opd this, tst_fail⟩
theorem ok_tup {es : List Expr} {ss : Es} {k : Nat} (h : OkEs Z Γ N top sc es ss) : OkE Z Γ N top sc (.Tuple es k p) (.tup ss) :=
  okV (by rw [ev]) (fun _ => rfl) rfl (fun _ _ => rfl) fun fl X B g => de_tup (h.2 fl X B g).1
theorem ok_lst {es : List Expr} {ss : Es} (h : OkEs Z Γ N top sc es ss) : OkE Z Γ N top sc (.List es p) (.lst ss) :=
  okV (by rw [ev]) (fun _ => rfl) rfl (fun _ _ => rfl) fun fl X B g => de_lst (h.2 fl X B g).1
theorem ok_idx (hs : PlainIx b) (ha : OkE Z Γ N top sc a s) (hb : OkE Z Γ N top sc b t) : OkE Z Γ N top sc (.Subscript a b p) (.idx s t) :=
  okV (by rw [ev]) (fun _ => rfl) rfl (fun _ _ => rfl) fun fl X B g => de_idx hs (ha.2 fl X B g).2.1 (hb.2 fl X B g).2.1
theorem ok_slc {lo hi : Option Expr} {p2 : Pos} {l h : E} (ha : OkE Z Γ N top sc a s) (hl : OkO Z Γ N top sc lo l) (hh : OkO Z Γ N top sc hi h) : OkE Z Γ N top sc (.Subscript a (.Slice lo hi none p2) p) (.slc s l h) :=
  okV (by rw [ev]) (fun _ => rfl) rfl (fun _ _ => rfl) fun fl X B g => de_slc (ha.2 fl X B g).2.1 (hl fl X B g) (hh fl X B g)
theorem ok_rev {k : Nat} {p1 p2 p3 : Pos} (ha : OkE Z Γ N top sc a s) : OkE Z Γ N top sc (.Subscript a (.Slice none none (some (.UnaryOp .USub (.Constant (.int 1) k p1) p2)) p3) p) (.rev s) :=
  okV (by rw [ev]) (fun _ => rfl) rfl (fun _ _ => rfl) fun fl X B g => de_rev (ha.2 fl X B g).2.1
theorem ok_join {ap : Pos} (hl : (ap.endLine == p.line) = true) (hc : isCall a = false) (ha : OkE Z Γ N top sc a s) (hb : OkE Z Γ N top sc b t) : OkE Z Γ N top sc (.Call (.Attribute a "join" ap) [b] [] p) (.meth .join s (.cons t .nil)) := by
  refine okV (by rw [ev]) (fun _ => rfl) rfl (fun _ _ => rfl) fun fl X B g => ?_
  rw [evR, evR]
  refine de_join (ha.2 fl X B g).2.1 (dp_cons (hb.2 fl X B g).2.1 dp_nil (star1 hb.1)) hb.1 ?_ hl
  cases a <;> first | rfl | cases hc
theorem ok_call0 {x : Str} {p' : Pos} {k : Nat} (hg : isG sc x = true) (hx : plainName x = true) (hk : idx? Z.fs x = some k) : OkE Z Γ N top sc (.Call (.Name x p') [] [] p) (.call k .nil) := by
  refine okV (by rw [ev]) (fun _ => rfl) rfl (fun _ _ => rfl) fun fl X B g => ?_
  cases hf : Γ.fn k with
  | none => unfold callF; rw [hf]; exact pe_fail
  | some F => exact de_call0 hf (fun env os env' h => shape_A h) (g.fns k F hf x (idx_get hk)) g.room g.gd (isG_gl g.hsc hg) g.tk (fun env r h => by
      cases hm : F.muts with
      | nil => rw [hm, evA] at h; cases h; rfl
      | cons m ms => rw [hm, evA] at h; cases h; all_goals simp) (plain_db hx).1
theorem ok_call {es : List Expr} {ss : Es} {x : Str} {p' : Pos} {k : Nat} (hg : isG sc x = true) (hx : plainName x = true) (hk : idx? Z.fs x = some k) (h : OkEs Z Γ N top sc (e :: es) ss) : OkE Z Γ N top sc (.Call (.Name x p') (e :: es) [] p) (.call k ss) := by
  refine okV (by rw [ev]) (fun _ => rfl) rfl (fun _ _ => rfl) fun fl X B g => ?_
  cases hf : Γ.fn k with
  | none => unfold callF; rw [hf]; exact pe_fail
  | some F => exact de_call hf (fun env os env' h => shape_A h) (g.fns k F hf x (idx_get hk)) g.room g.gd (isG_gl g.hsc hg) g.tk ((h.2 fl X B g).2.2.1 _) h.1.1 (plain_db hx).1
theorem ok_bi {es : List Expr} {ss : Es} {x : Str} {p' : Pos} {f : Bi} (hg : isG sc x = true) (hk : trBi x = some f) (h : OkEs Z Γ N top sc (e :: es) ss) : OkE Z Γ N top sc (.Call (.Name x p') (e :: es) [] p) (.bi f ss) := by
  refine okV (by rw [ev]) (fun _ => rfl) rfl (fun _ _ => rfl) fun fl X B g => ?_
  have hx : x = (biV f).1 := by
    have := List.find?_some hk
    exact (of_decide_eq_true this).symm
  exact de_bi g.calm g.gd g.units hx (isG_gl g.hsc hg) (by rw [hx]; exact g.blt f) h.1.1 (h.2 fl X B g).2.1
theorem oks_nil : OkEs Z Γ N top sc [] .nil := by
  refine ⟨⟨rfl, fun _ => rfl⟩, fun fl X B g => ⟨?_, ?_, fun ms => ?_, ?_⟩⟩
  · rw [evs]; exact da_nil
  · rw [evR]; exact dp_nil
  · cases ms with
    | nil => rw [evA]; exact dp_nil
    | cons m ms => rw [evA]; exact pa_fail; all_goals simp
  · rw [evC]; exact dc_nil
theorem da_val {C : Cf} {X : Cx} {m : M D} {ms : M (List Opd)} {es : List Expr} {B : Bs} (ha : PE X e (tO (cf X B) m)) (hr : PA X es (tOpds (cf X B) ms)) (hs : starEach (e :: es) X.env = (false, eval e X.env) :: starEach es X.env) :
    PA X (e :: es) (tOpds (cf X B) (M.bind m fun d => M.bind ms fun os => M.ret (.val d.fz :: os))) := by
  have := dp_cons (pe_opd ha) hr hs
  unfold frozen at this
  rw [bind_assoc] at this
  exact this
theorem oks_cons {es : List Expr} {ss : Es} (ha : OkE Z Γ N top sc e s) (hs : OkEs Z Γ N top sc es ss) : OkEs Z Γ N top sc (e :: es) (.cons s ss) := by
  refine ⟨⟨by rw [List.all_cons, ha.1, hs.1.1]; rfl, fun h => by cases h⟩, fun fl X B g => ?_⟩
  obtain ⟨a1, a2, a3⟩ := ha.2 fl X B g
  obtain ⟨b1, b2, b3, b4⟩ := hs.2 fl X B g
  have s1 := star1 (es := es) (env := X.env) ha.1
  refine ⟨?_, ?_, fun ms => ?_, ?_⟩
  · rw [evs]; exact da_cons a1 b1 s1
  · rw [evR]; exact dp_cons a2 b2 s1
  · match ms with
    | [] => rw [evA]; exact pa_fail; all_goals simp
    | false :: ms => rw [evA]; exact da_val (C := cf X B) a1 (b3 ms) s1
    | true :: ms =>
      cases s with
      | var i => rw [evA]; exact dp_cons a2 (b3 ms) s1
      | _ => rw [evA]; exact pa_fail; all_goals simp
  · cases es with
    | nil =>
      cases ss with
      | nil => rw [evC]; exact dc_one a3
      | cons _ _ => rw [evC]; exact ⟨fun _ _ _ _ _ _ ⟨_, _, _, _, q⟩ => (tAt_fail q).elim⟩
    | cons _ _ =>
      cases ss with
      | nil => cases hs.1.2 rfl
      | cons _ _ => rw [evC]; exact ⟨fun _ _ _ _ _ _ ⟨_, _, _, _, q⟩ => (tAt_fail q).elim⟩
end
end
end Dz

set_option Elab.async false
set_option linter.all false
set_option maxRecDepth 100000
set_option maxHeartbeats 4000000
/-! Dz, part 15: the same for all expressions. -/
namespace Dz
open PySem PySem.Spec PyProof.Rows L2
section
variable {Z : Tx} {Γ : Sig} {N : List Str} {top : Bool} {sc : Scope}
theorem ownOf_snd (N : List Str) (scope : Scope) : True := trivial
theorem ok_comp {elt tg it : Expr} {ifs : List Expr} {scope : Scope} {p : Pos} {i : It} {t : T} {cs : Es} {s : E} (hb : blkC N sc scope (ownOf N scope) = true) (hi : OkI Z Γ N top sc it i) (htg : TgI i tg) (ht : OkT Z Γ N false (relS scope sc) tg t) (hc : OkEs Z Γ N false (relS scope sc) ifs cs) (he : OkE Z Γ N false (relS scope sc) elt s) :
    OkE Z Γ N top sc (.ListComp elt [⟨tg, it, ifs, 0⟩] scope p) (.comp t i cs s ((ownOf N scope).map (·.2))) := by
  refine okV (by rw [ev]) (fun _ => rfl) rfl (fun _ _ => rfl) fun fl X B g => ?_
  have hk := (blkOk_by hb).kind
  have gN := g.hN
  have gs := g.hsc
  have G := fun s H C cl fp => g.blk (s := s) (H := H) (C := C) (cl := cl) (fp := fp) hk
  exact de_comp g.pin g.calm (by rw [gN]; exact g.nd) (hi.2 fl X B g tg htg) (by rw [gN, gs]; exact hb) (fun s H C cl fp => ht.2 fl _ _ (G s H C cl fp)) (fun s H C cl fp => (hc.2 fl _ _ (G s H C cl fp)).2.2.2) (fun s H C cl fp => (he.2 fl _ _ (G s H C cl fp)).1) (hi.1 X.env)
theorem ok_heard {as : Arguments} {body : Expr} {scope : Scope} {lp p' p : Pos} {x : Str} {k : Nat} {s : E} (ht : top = true) (ha : lamArgs as = true) (hl : LamX.lamSB sc scope = true) (hg : isG sc x = true) (hk : idx? Z.ts x = some k) (h : OkE Z Γ N false scope body s) :
    OkE Z Γ N top sc (.Call (.Name x p') [.Lambda as body scope lp] [] p) (.heard k s) := by
  refine okV (by rw [ev]) (fun _ => rfl) rfl (fun _ _ => rfl) fun fl X B g => ?_
  have L := LamX.lamS_by hl
  exact g.hrd ht k x (idx_get hk) as body scope lp p' p _ ha (by rw [g.hsc]; exact L) (by rw [g.hsc]; exact hg) fun A outer s H E f c' hgd hr => (h.2 fl _ _ (g.lam L.kind hgd hr)).1
theorem oki_e {e : Expr} {s : E} (hs : ∀ env x, foldedSetIterable e env x = pure x) (h : OkE Z Γ N top sc e s) : OkI Z Γ N top sc e (.e s) :=
  ⟨hs, fun fl X B g tg _ => by rw [evI]; exact di_e (h.2 fl X B g).1⟩
theorem oki_r1 {a : Expr} {s : E} {p p' : Pos} (hg : isG sc "range" = true) (h : OkE Z Γ N top sc a s) : OkI Z Γ N top sc (.Call (.Name "range" p') [a] [] p) (.range1 s) :=
  ⟨fun _ _ => rfl, fun fl X B g tg _ => by rw [evI]; exact di_range1 (isG_gl g.hsc hg) g.rng h.1 (h.2 fl X B g).1⟩
theorem oki_r2 {a b : Expr} {s t : E} {p p' : Pos} (hg : isG sc "range" = true) (h : OkE Z Γ N top sc a s) (h2 : OkE Z Γ N top sc b t) : OkI Z Γ N top sc (.Call (.Name "range" p') [a, b] [] p) (.range2 s t) :=
  ⟨fun _ _ => rfl, fun fl X B g tg _ => by rw [evI]; exact di_range2 (isG_gl g.hsc hg) g.rng ⟨h.1, h2.1⟩ (h.2 fl X B g).1 (h2.2 fl X B g).1⟩
theorem oki_ez {a b : Expr} {s t : E} {p p' p2 pos2 : Pos} (hg : isG sc "enumerate" = true) (hg2 : isG sc "zip" = true) (h : OkE Z Γ N top sc a s) (h2 : OkE Z Γ N top sc b t) : OkI Z Γ N top sc (.Call (.Name "enumerate" p') [.Call (.Name "zip" p2) [a, b] [] pos2] [] p) (.ezip s t) :=
  ⟨fun _ _ => rfl, fun fl X B g tg ht => by
    obtain ⟨es, k, q, rfl⟩ := ht
    rw [evI]
    exact di_ezip (isG_gl g.hsc hg) g.enu.1 (isG_gl g.hsc hg2) g.enu.2 ⟨h.1, h2.1⟩ (h.2 fl X B g).1 (h2.2 fl X B g).1⟩
/-- a row of and's: the first is s -/
def OkAnd (Z : Tx) (Γ : Sig) (N : List Str) (top : Bool) (sc : Scope) (op : BoolOp) (es : List Expr) (s : E) : Prop :=
  ∀ fl X B, Gd Z Γ N top fl sc X B → ∀ p, PE X (.BoolOp op es p) (tO (cf X B) (ev Γ s).1) ∧ PW X (.BoolOp op es p) (tTst (cf X B) (ev Γ s).2)
theorem okand_one {op : BoolOp} {e : Expr} {s : E} (h : OkE Z Γ N top sc e s) : OkAnd Z Γ N top sc op [e] s := fun fl X B g p => by
  obtain ⟨a1, a2, a3⟩ := h.2 fl X B g
  refine ⟨pe_one a1, ?_⟩
  cases op with
  | And => exact pw_and1 a3
  | Or => exact pw_or1 a3
theorem okand_and {a b : Expr} {es : List Expr} {s t : E} (h : OkE Z Γ N top sc a s) (h2 : OkAnd Z Γ N top sc .And (b :: es) t) : OkAnd Z Γ N top sc .And (a :: b :: es) (.and_ s t) := fun fl X B g p => by
  obtain ⟨a1, a2, a3⟩ := h.2 fl X B g
  rw [ev]
  exact ⟨de_and a1 (h2 fl X B g p).1, dt_and a3 (h2 fl X B g p).2⟩
theorem okand_or {a b : Expr} {es : List Expr} {s t : E} (h : OkE Z Γ N top sc a s) (h2 : OkAnd Z Γ N top sc .Or (b :: es) t) : OkAnd Z Γ N top sc .Or (a :: b :: es) (.or_ s t) := fun fl X B g p => by
  obtain ⟨a1, a2, a3⟩ := h.2 fl X B g
  rw [ev]
  exact ⟨de_or a1 (h2 fl X B g p).1, dt_or a3 (h2 fl X B g p).2⟩
theorem ok_bool {op : BoolOp} {es : List Expr} {s : E} {p : Pos} (hs : ∀ m, rdF s m = frozen m) (h : OkAnd Z Γ N top sc op es s) : OkE Z Γ N top sc (.BoolOp op es p) s :=
  ⟨rfl, fun fl X B g => ⟨(h fl X B g p).1, by rw [hs]; exact pe_opd (h fl X B g p).1, (h fl X B g p).2.pt⟩⟩
theorem trE_fold {e : Expr} {s : E} (h : trE Z N top sc e = some s) : ∀ env x, foldedSetIterable e env x = pure x := by
  intro env x
  cases e <;> first | rfl | (simp [trE] at h)
theorem trE_ix {e : Expr} {s : E} (h : trE Z N top sc e = some s) : PlainIx e := by
  intro o i
  cases e <;> first | rfl | (simp [trE] at h)
theorem and_of {e : Expr} {es : List Expr} {s : E} {op : BoolOp} (b : Expr) (h : OkAnd Z Γ N top sc op (e :: es) s) : True := trivial
theorem isMinus1_eq {e : Expr} (h : isMinus1 e = true) : ∃ k p1 p2, e = .UnaryOp .USub (.Constant (.int 1) k p1) p2 := by
  unfold isMinus1 at h
  split at h
  · exact ⟨_, _, _, rfl⟩
  · cases h
/-- all of them up to a size -/
structure AllOk (Z : Tx) (Γ : Sig) (N : List Str) (n : Nat) : Prop where
  e : ∀ (e : Expr) (top : Bool) (sc : Scope) {s : E}, sizeOf e < n → trE Z N top sc e = some s → OkE Z Γ N top sc e s
  es : ∀ (es : List Expr) (top : Bool) (sc : Scope) {ss : Es}, sizeOf es < n → trEs Z N top sc es = some ss → OkEs Z Γ N top sc es ss
  and_ : ∀ (es : List Expr) (top : Bool) (sc : Scope) {a : Expr} {s t : E}, sizeOf es < n → OkE Z Γ N top sc a s → trAnd Z N top sc s es = some t → (∀ m, rdF t m = frozen m) ∧ OkAnd Z Γ N top sc .And (a :: es) t
  or_ : ∀ (es : List Expr) (top : Bool) (sc : Scope) {a : Expr} {s t : E}, sizeOf es < n → OkE Z Γ N top sc a s → trOr Z N top sc s es = some t → (∀ m, rdF t m = frozen m) ∧ OkAnd Z Γ N top sc .Or (a :: es) t
  o : ∀ (o : Option Expr) (top : Bool) (sc : Scope) {s : E}, sizeOf o < n → trO Z N top sc o = some s → OkO Z Γ N top sc o s
  i : ∀ (e : Expr) (top : Bool) (sc : Scope) {i : It}, sizeOf e < n → trI Z N top sc e = some i → OkI Z Γ N top sc e i
theorem trE_ok {n : Nat} (ih : AllOk Z Γ N n) : ∀ (e : Expr) (top : Bool) (sc : Scope) {s : E}, sizeOf e < n + 1 → trE Z N top sc e = some s → OkE Z Γ N top sc e s
  | .Constant c k p, top, sc, s, hn, h => by
    simp only [trE] at h
    obtain ⟨d, hd, rfl⟩ := Option.map_eq_some_iff.mp h
    exact ok_const hd
  | .Name x p, top, sc, s, hn, h => by
    simp only [trE] at h
    obtain ⟨i, hi, rfl⟩ := Option.map_eq_some_iff.mp h
    exact ok_name hi
  | .BinOp a op b p, top, sc, s, hn, h => by
    simp only [trE] at h
    obtain ⟨o, ho, h⟩ := Option.bind_eq_some_iff.mp h
    obtain ⟨sa, ha, h⟩ := Option.bind_eq_some_iff.mp h
    obtain ⟨sb, hb, rfl⟩ := Option.map_eq_some_iff.mp h
    exact ok_bin ho (ih.e a top sc (by simp at hn; omega) ha) (ih.e b top sc (by simp at hn; omega) hb)
  | .UnaryOp op a p, top, sc, s, hn, h => by
    simp only [trE] at h
    split at h
    · obtain ⟨sa, ha, rfl⟩ := Option.map_eq_some_iff.mp h
      exact ok_neg (ih.e a top sc (by simp at hn; omega) ha)
    · obtain ⟨sa, ha, rfl⟩ := Option.map_eq_some_iff.mp h
      exact ok_not (ih.e a top sc (by simp at hn; omega) ha)
    · cases h
  | .Compare a ops cs p, top, sc, s, hn, h => by
    rcases ops with _ | ⟨op, _ | ⟨_, _⟩⟩
    · simp [trE] at h
    · rcases cs with _ | ⟨b, _ | ⟨_, _⟩⟩
      · simp [trE] at h
      · simp only [trE] at h
        obtain ⟨o, ho, h⟩ := Option.bind_eq_some_iff.mp h
        obtain ⟨sa, ha, h⟩ := Option.bind_eq_some_iff.mp h
        obtain ⟨sb, hb, rfl⟩ := Option.map_eq_some_iff.mp h
        exact ok_cmp ho (ih.e a top sc (by simp at hn; omega) ha) (ih.e b top sc (by simp at hn; omega) hb)
      · simp [trE] at h
    · simp [trE] at h
  | .BoolOp op es p, top, sc, s, hn, h => by
    rcases es with _ | ⟨e, es⟩
    · cases op <;> simp [trE] at h
    · cases op
      · simp only [trE] at h
        obtain ⟨sa, ha, h⟩ := Option.bind_eq_some_iff.mp h
        obtain ⟨hr, h⟩ := ih.and_ es top sc (by simp at hn; omega) (ih.e e top sc (by simp at hn; omega) ha) h
        exact ok_bool hr h
      · simp only [trE] at h
        obtain ⟨sa, ha, h⟩ := Option.bind_eq_some_iff.mp h
        obtain ⟨hr, h⟩ := ih.or_ es top sc (by simp at hn; omega) (ih.e e top sc (by simp at hn; omega) ha) h
        exact ok_bool hr h
  | .IfExp c a b p, top, sc, s, hn, h => by
    simp only [trE] at h
    obtain ⟨o, ho, h⟩ := Option.bind_eq_some_iff.mp h
    obtain ⟨sa, ha, h⟩ := Option.bind_eq_some_iff.mp h
    obtain ⟨sb, hb, rfl⟩ := Option.map_eq_some_iff.mp h
    exact ok_ite (ih.e c top sc (by simp at hn; omega) ho) (ih.e a top sc (by simp at hn; omega) ha) (ih.e b top sc (by simp at hn; omega) hb)
  | .Tuple es k p, top, sc, s, hn, h => by
    simp only [trE] at h
    obtain ⟨d, hd, rfl⟩ := Option.map_eq_some_iff.mp h
    exact ok_tup (ih.es es top sc (by simp at hn; omega) hd)
  | .List es p, top, sc, s, hn, h => by
    simp only [trE] at h
    obtain ⟨d, hd, rfl⟩ := Option.map_eq_some_iff.mp h
    exact ok_lst (ih.es es top sc (by simp at hn; omega) hd)
  | .Subscript a b p, top, sc, s, hn, h => by
    by_cases hs : ∃ lo hi st p2, b = .Slice lo hi st p2
    · obtain ⟨lo, hi, st, p2, rfl⟩ := hs
      simp only [trE] at h
      obtain ⟨sa, ha, h⟩ := Option.bind_eq_some_iff.mp h
      cases st with
      | some e =>
        simp only at h
        split at h
        · rename_i hz
          cases h
          simp only [Bool.and_eq_true, Option.isNone_iff_eq_none] at hz
          obtain ⟨⟨rfl, rfl⟩, hz⟩ := hz
          obtain ⟨k, p1, p2, rfl⟩ := isMinus1_eq hz
          exact ok_rev (ih.e a top sc (by simp at hn; omega) ha)
        · cases h
      | none =>
        simp only at h
        obtain ⟨l, hl, h⟩ := Option.bind_eq_some_iff.mp h
        obtain ⟨u, hu, rfl⟩ := Option.map_eq_some_iff.mp h
        exact ok_slc (ih.e a top sc (by simp at hn; omega) ha) (ih.o lo top sc (by simp at hn; omega) hl) (ih.o hi top sc (by simp at hn; omega) hu)
    · have h : ((trE Z N top sc a).bind fun a => (trE Z N top sc b).map fun b => .idx a b) = some s := by
        rw [trE] at h
        · exact h
        · intro lo hi st p2 e
          exact hs ⟨lo, hi, st, p2, e⟩
      obtain ⟨sa, ha, h⟩ := Option.bind_eq_some_iff.mp h
      obtain ⟨sb, hb, rfl⟩ := Option.map_eq_some_iff.mp h
      exact ok_idx (trE_ix hb) (ih.e a top sc (by simp at hn; omega) ha) (ih.e b top sc (by simp at hn; omega) hb)
  | .Call f es ks p, top, sc, s, hn, h => by
    cases ks with
    | cons _ _ => cases f <;> simp [trE] at h
    | nil =>
    by_cases hf : ∃ x p', f = .Name x p'
    · obtain ⟨x, p', rfl⟩ := hf
      unfold trE at h
      dsimp only at h
      split at h
      · rename_i hg
        simp only [Bool.and_eq_true] at hg
        split at h
        · split at h
          · rename_i hl
            simp only [Bool.and_eq_true] at hl
            obtain ⟨k, hk, h⟩ := Option.bind_eq_some_iff.mp h
            obtain ⟨sb, hb, rfl⟩ := Option.map_eq_some_iff.mp h
            exact ok_heard hl.1.1 hl.1.2 hl.2 hg.1 hk (ih.e _ false _ (by simp at hn; omega) hb)
          · cases h
        · obtain ⟨k, hk, rfl⟩ := Option.map_eq_some_iff.mp h
          exact ok_call0 hg.1 hg.2 hk
        · split at h
          · rename_i k hk
            obtain ⟨sa, ha, h⟩ := Option.bind_eq_some_iff.mp h
            obtain ⟨sb, hb, rfl⟩ := Option.map_eq_some_iff.mp h
            exact ok_call hg.1 hg.2 hk (oks_cons (ih.e _ top sc (by simp at hn; omega) ha) (ih.es _ top sc (by simp at hn; omega) hb))
          · obtain ⟨f, hf, h⟩ := Option.bind_eq_some_iff.mp h
            obtain ⟨sa, ha, h⟩ := Option.bind_eq_some_iff.mp h
            obtain ⟨sb, hb, rfl⟩ := Option.map_eq_some_iff.mp h
            exact ok_bi hg.1 hf (oks_cons (ih.e _ top sc (by simp at hn; omega) ha) (ih.es _ top sc (by simp at hn; omega) hb))
      · cases h
    · by_cases hf2 : ∃ o m ap, f = .Attribute o m ap
      · obtain ⟨o, m, ap, rfl⟩ := hf2
        rcases es with _ | ⟨e, _ | ⟨_, _⟩⟩
        · simp [trE] at h
        · rw [trE] at h
          split at h
          · rename_i hg
            simp only [Bool.and_eq_true, decide_eq_true_eq, Bool.not_eq_true'] at hg
            obtain ⟨⟨hm, hc⟩, hl⟩ := hg
            obtain ⟨sa, ha, h⟩ := Option.bind_eq_some_iff.mp h
            obtain ⟨sb, hb, rfl⟩ := Option.map_eq_some_iff.mp h
            rw [hm]
            exact ok_join hl hc (ih.e o top sc (by simp at hn; omega) ha) (ih.e e top sc (by simp at hn; omega) hb)
          · cases h
        · simp [trE] at h
      · exfalso
        cases f <;> first | exact hf ⟨_, _, rfl⟩ | exact hf2 ⟨_, _, _, rfl⟩ | (simp [trE] at h)
  | .ListComp elt gens scope p, top, sc, s, hn, h => by
    rw [trE] at h
    rcases gens with _ | ⟨⟨tg, it, ifs, n⟩, _ | ⟨_, _⟩⟩
    · simp [trG] at h
    · rw [trG] at h
      have hj := h
      split at hj
      · rename_i hg
        simp only [Bool.and_eq_true, decide_eq_true_eq] at hg
        obtain ⟨rfl, hb⟩ := hg
        obtain ⟨i, hi, hj⟩ := Option.bind_eq_some_iff.mp hj
        obtain ⟨t, ht, hj⟩ := Option.bind_eq_some_iff.mp hj
        split at hj
        case isFalse => cases hj
        rename_i hok
        obtain ⟨cs, hc, hj⟩ := Option.bind_eq_some_iff.mp hj
        obtain ⟨se, he, rfl⟩ := Option.map_eq_some_iff.mp hj
        refine ok_comp hb ?_ (tgI_of ht hok) (trT_ok tg ht) (ih.es ifs false _ (by simp at hn; omega) hc) (ih.e elt false _ (by simp at hn; omega) he)
        cases h1 : trI Z N top sc it with
        | some i' =>
          rw [h1] at hi
          cases hi
          exact ih.i it top sc (by simp at hn; omega) h1
        | none =>
          rw [h1] at hi
          obtain ⟨si, hs, rfl⟩ := Option.map_eq_some_iff.mp hi
          exact oki_e (trE_fold hs) (ih.e it top sc (by simp at hn; omega) hs)
      · cases hj
    · simp [trG] at h
  | .NamedExpr .., top, sc, s, hn, h | .Lambda .., top, sc, s, hn, h | .Dict .., top, sc, s, hn, h | .Set .., top, sc, s, hn, h | .SetComp .., top, sc, s, hn, h | .DictComp .., top, sc, s, hn, h | .GeneratorExp .., top, sc, s, hn, h
  | .Await .., top, sc, s, hn, h | .Yield .., top, sc, s, hn, h | .YieldFrom .., top, sc, s, hn, h | .FormattedValue .., top, sc, s, hn, h | .JoinedStr .., top, sc, s, hn, h | .Attribute .., top, sc, s, hn, h | .Starred .., top, sc, s, hn, h | .Slice .., top, sc, s, hn, h => by
    simp [trE] at h
theorem trEs_ok {n : Nat} (ih : AllOk Z Γ N n) : ∀ (es : List Expr) (top : Bool) (sc : Scope) {ss : Es}, sizeOf es < n + 1 → trEs Z N top sc es = some ss → OkEs Z Γ N top sc es ss
  | [], top, sc, ss, hn, h => by
    simp only [trEs] at h
    cases h
    exact oks_nil
  | e :: es, top, sc, ss, hn, h => by
    simp only [trEs] at h
    obtain ⟨sa, ha, h⟩ := Option.bind_eq_some_iff.mp h
    obtain ⟨sb, hb, rfl⟩ := Option.map_eq_some_iff.mp h
    exact oks_cons (ih.e e top sc (by simp at hn; omega) ha) (ih.es es top sc (by simp at hn; omega) hb)
theorem trAnd_ok {n : Nat} (ih : AllOk Z Γ N n) : ∀ (es : List Expr) (top : Bool) (sc : Scope) {a : Expr} {s t : E}, sizeOf es < n + 1 → OkE Z Γ N top sc a s → trAnd Z N top sc s es = some t → (∀ m, rdF t m = frozen m) ∧ OkAnd Z Γ N top sc .And (a :: es) t
  | [], top, sc, a, s, t, hn, ha, h => by simp [trAnd] at h
  | e :: es, top, sc, a, s, t, hn, ha, h => by
    rw [trAnd] at h
    obtain ⟨sb, hb, h1⟩ := Option.bind_eq_some_iff.mp h
    obtain ⟨sc', h2, rfl⟩ := Option.map_eq_some_iff.mp h1
    refine ⟨fun _ => rfl, ?_⟩
    split at h2
    · cases h2
      exact okand_and ha (okand_one (ih.e e top sc (by simp at hn; omega) hb))
    · rename_i hne
      have := (ih.and_ es top sc (by simp at hn; omega) (ih.e e top sc (by simp at hn; omega) hb) h2).2
      exact okand_and ha this
theorem trOr_ok {n : Nat} (ih : AllOk Z Γ N n) : ∀ (es : List Expr) (top : Bool) (sc : Scope) {a : Expr} {s t : E}, sizeOf es < n + 1 → OkE Z Γ N top sc a s → trOr Z N top sc s es = some t → (∀ m, rdF t m = frozen m) ∧ OkAnd Z Γ N top sc .Or (a :: es) t
  | [], top, sc, a, s, t, hn, ha, h => by simp [trOr] at h
  | e :: es, top, sc, a, s, t, hn, ha, h => by
    rw [trOr] at h
    obtain ⟨sb, hb, h1⟩ := Option.bind_eq_some_iff.mp h
    obtain ⟨sc', h2, rfl⟩ := Option.map_eq_some_iff.mp h1
    refine ⟨fun _ => rfl, ?_⟩
    split at h2
    · cases h2
      exact okand_or ha (okand_one (ih.e e top sc (by simp at hn; omega) hb))
    · rename_i hne
      have := (ih.or_ es top sc (by simp at hn; omega) (ih.e e top sc (by simp at hn; omega) hb) h2).2
      exact okand_or ha this
theorem trO_ok {n : Nat} (ih : AllOk Z Γ N n) : ∀ (o : Option Expr) (top : Bool) (sc : Scope) {s : E}, sizeOf o < n + 1 → trO Z N top sc o = some s → OkO Z Γ N top sc o s
  | none, top, sc, s, hn, h => by
    simp only [trO] at h
    cases h
    exact fun fl X B g => do_none
  | some e, top, sc, s, hn, h => by
    simp only [trO] at h
    obtain ⟨sa, ha, h⟩ := Option.bind_eq_some_iff.mp h
    split at h
    · cases h
    · rename_i hn
      cases h
      have := ih.e e top sc (by have : sizeOf (some e) = 1 + sizeOf e := rfl; omega) ha
      refine fun fl X B g => ?_
      have := do_some (this.2 fl X B g).1
      cases s <;> first | exact this | exact absurd rfl hn
theorem trI_ok {n : Nat} (ih : AllOk Z Γ N n) : ∀ (e : Expr) (top : Bool) (sc : Scope) {i : It}, sizeOf e < n + 1 → trI Z N top sc e = some i → OkI Z Γ N top sc e i
  | .Call f es ks p, top, sc, i, hn, h => by
    cases ks with
    | cons _ _ => cases f <;> simp [trI] at h
    | nil =>
    by_cases hf : ∃ x p', f = .Name x p'
    · obtain ⟨x, p', rfl⟩ := hf
      unfold trI at h
      dsimp only at h
      split at h
      · rename_i hg
        split at h
        · split at h
          · rename_i hx
            simp only [decide_eq_true_eq] at hx
            rw [hx] at hg ⊢
            obtain ⟨sb, hb, rfl⟩ := Option.map_eq_some_iff.mp h
            exact oki_r1 hg (ih.e _ top sc (by simp at hn; omega) hb)
          · split at h
            · rename_i hx
              simp only [decide_eq_true_eq] at hx
              rw [hx] at hg ⊢
              split at h
              · split at h
                · rename_i hy
                  simp only [Bool.and_eq_true, decide_eq_true_eq] at hy
                  obtain ⟨hy1, rfl⟩ := hy
                  obtain ⟨sa, ha, h⟩ := Option.bind_eq_some_iff.mp h
                  obtain ⟨sb, hb, rfl⟩ := Option.map_eq_some_iff.mp h
                  exact oki_ez hg hy1 (ih.e _ top sc (by simp at hn; omega) ha) (ih.e _ top sc (by simp at hn; omega) hb)
                · cases h
              · cases h
            · cases h
        · split at h
          · rename_i hx
            simp only [decide_eq_true_eq] at hx
            rw [hx] at hg ⊢
            obtain ⟨sa, ha, h⟩ := Option.bind_eq_some_iff.mp h
            obtain ⟨sb, hb, rfl⟩ := Option.map_eq_some_iff.mp h
            exact oki_r2 hg (ih.e _ top sc (by simp at hn; omega) ha) (ih.e _ top sc (by simp at hn; omega) hb)
          · cases h
        · cases h
      · cases h
    · exfalso
      cases f <;> first | exact hf ⟨_, _, rfl⟩ | (simp [trI] at h)
  | .NamedExpr .., top, sc, s, hn, h | .Lambda .., top, sc, s, hn, h | .Dict .., top, sc, s, hn, h | .Set .., top, sc, s, hn, h | .SetComp .., top, sc, s, hn, h | .DictComp .., top, sc, s, hn, h | .GeneratorExp .., top, sc, s, hn, h
  | .Await .., top, sc, s, hn, h | .Yield .., top, sc, s, hn, h | .YieldFrom .., top, sc, s, hn, h | .FormattedValue .., top, sc, s, hn, h | .JoinedStr .., top, sc, s, hn, h | .Attribute .., top, sc, s, hn, h | .Starred .., top, sc, s, hn, h | .Slice .., top, sc, s, hn, h
  | .Constant .., top, sc, s, hn, h | .Name .., top, sc, s, hn, h | .BinOp .., top, sc, s, hn, h | .UnaryOp .., top, sc, s, hn, h | .Compare .., top, sc, s, hn, h | .BoolOp .., top, sc, s, hn, h | .IfExp .., top, sc, s, hn, h | .Tuple .., top, sc, s, hn, h | .List .., top, sc, s, hn, h | .Subscript .., top, sc, s, hn, h | .ListComp .., top, sc, s, hn, h => by
    simp [trI] at h
theorem allOk : ∀ n, AllOk Z Γ N n
  | 0 => ⟨fun _ _ _ _ h => absurd h (Nat.not_lt_zero _), fun _ _ _ _ h => absurd h (Nat.not_lt_zero _), fun _ _ _ _ _ _ h => absurd h (Nat.not_lt_zero _), fun _ _ _ _ _ _ h => absurd h (Nat.not_lt_zero _), fun _ _ _ _ h => absurd h (Nat.not_lt_zero _), fun _ _ _ _ h => absurd h (Nat.not_lt_zero _)⟩
  | n + 1 => ⟨trE_ok (allOk n), trEs_ok (allOk n), trAnd_ok (allOk n), trOr_ok (allOk n), trO_ok (allOk n), trI_ok (allOk n)⟩
theorem okE {e : Expr} {s : E} (h : trE Z N top sc e = some s) : OkE Z Γ N top sc e s := (allOk (sizeOf e + 1)).e e top sc (Nat.lt_succ_self _) h
theorem okEs {e : List Expr} {s : Es} (h : trEs Z N top sc e = some s) : OkEs Z Γ N top sc e s := (allOk (sizeOf e + 1)).es e top sc (Nat.lt_succ_self _) h
theorem okI {e : Expr} {s : It} (h : ((trI Z N top sc e).or ((trE Z N top sc e).map .e)) = some s) : OkI Z Γ N top sc e s := by
  cases h1 : trI Z N top sc e with
  | some i' =>
    rw [h1] at h
    cases h
    exact (allOk (sizeOf e + 1)).i e top sc (Nat.lt_succ_self _) h1
  | none =>
    rw [h1] at h
    obtain ⟨si, hs, rfl⟩ := Option.map_eq_some_iff.mp h
    exact oki_e (trE_fold hs) (okE hs)
end
end Dz

set_option Elab.async false
set_option linter.all false
set_option maxRecDepth 100000
set_option maxHeartbeats 4000000
/-! Dz, part 16: statements read so are so. -/
namespace Dz
open PySem PySem.Spec PyProof.Rows L2
section
variable {Z : Tx} {Γ : Sig} {N : List Str} {sc : Scope}
def OkS (Z : Tx) (Γ : Sig) (N : List Str) (sc : Scope) (st : Stmt) (s : S) : Prop := ∀ fl X B, Gd Z Γ N true fl sc X B → PS X st (tX (cf X B) (ex Γ s))
def OkSs (Z : Tx) (Γ : Sig) (N : List Str) (sc : Scope) (st : List Stmt) (s : Ss) : Prop := ∀ fl X B, Gd Z Γ N true fl sc X B → PSs X st (tX (cf X B) (exs Γ s))
section
variable {e a b k : Expr} {s t u : E} {p : Pos} {top : Bool}
theorem sw_no {tg : Option Expr} {l : Nat} {env : PySem.Env} (h : trE Z N top sc e = some s) (hc : isComp e = false) : swapsWith e tg l env = pure false := by
  cases e <;> first | rfl | (simp [trE] at h; done) | (cases hc; done)
theorem sw_tup {tg : Expr} {l : Nat} {env : PySem.Env} {es : List Expr} {j : Nat} {q : Pos} (h : trE Z N top sc e = some s) (hc : isComp e = false) : swapsWithSole [.Tuple es j q] e l env = pure false := sw_no (tg := some (.Tuple es j q)) (l := l) (env := env) h hc
theorem ok_asg {x : Str} {px : Pos} {i : Nat} (hi : trL N true sc x = some i) (h : trE Z N true sc e = some s) : OkS Z Γ N sc (.Assign [.Name x px] e p) (.asg i s) := fun fl X B g => by
  obtain ⟨h1, h2⟩ := trL_ok hi
  have gN := g.hN
  have gs := g.hsc
  subst gN gs
  have hL : Loc X.env.scope x := h2.imp id (·.1)
  have hf : X.fn x = true ∨ X.env.scope.names.lookup x = some .local := h2.elim .inr fun h => .inl (g.fnc rfl _ h.1)
  have O := (okE (Γ := Γ) h).2 fl X B g
  rw [ex]
  by_cases hc : isComp e = true
  · cases e <;> first | (cases hc; done) | skip
    rename_i elt gens scope lp
    have sw : ∀ l, swapsWith (.ListComp elt gens scope lp) (some (.Name x px)) l X.env = pure (X.env.blockKind == .function && X.env.kindOf x == some .local && px.line == lp.line && !(scope.names.any fun (n, k) => n == x && (k == .local || k == .cell))) := fun l => rfl
    cases hb : (X.env.blockKind == .function && X.env.kindOf x == some .local && px.line == lp.line && !(scope.names.any fun (n, k) => n == x && (k == .local || k == .cell))) with
    | false =>
      refine ds_asg g.pin g.nd h1 hL hf O.1 ?_
      rw [sw, hb]
    | true =>
      have hl : X.env.scope.names.lookup x = some .local := by
        simp only [Bool.and_eq_true, beq_iff_eq] at hb
        exact hb.1.1.2
      -- the comprehension
      unfold trE at h
      rcases gens with _ | ⟨⟨tg, it, ifs, n⟩, _ | ⟨_, _⟩⟩
      · simp [trG] at h
      · unfold trG at h
        split at h
        · rename_i hg
          simp only [Bool.and_eq_true, decide_eq_true_eq] at hg
          obtain ⟨rfl, hbk⟩ := hg
          obtain ⟨i', hi', h⟩ := Option.bind_eq_some_iff.mp h
          obtain ⟨t, ht, h⟩ := Option.bind_eq_some_iff.mp h
          split at h
          case isFalse => cases h
          rename_i hok
          obtain ⟨cs, hcs, h⟩ := Option.bind_eq_some_iff.mp h
          obtain ⟨se, he, rfl⟩ := Option.map_eq_some_iff.mp h
          have hk := (blkOk_by hbk).kind
          have G := fun s H C cl fp => g.blk (s := s) (H := H) (C := C) (cl := cl) (fp := fp) hk
          have oi := okI (Γ := Γ) hi'
          rw [ev]
          exact ds_setLc g.pin g.calm g.nd h1 hl (by rw [sw, hb]) (oi.2 fl X B g tg (tgI_of ht hok)) hbk (fun s H C cl fp => (trT_ok tg ht).2 fl _ _ (G s H C cl fp)) (fun s H C cl fp => ((okEs hcs).2 fl _ _ (G s H C cl fp)).2.2.2) (fun s H C cl fp => ((okE he).2 fl _ _ (G s H C cl fp)).1) (oi.1 X.env)
        · cases h
      · simp [trG] at h
  · exact ds_asg g.pin g.nd h1 hL hf O.1 (sw_no h (by simpa using hc))
theorem ok_asgT {es : List Expr} {j : Nat} {q : Pos} {ts : Ts} (ht : trTs N true sc es = some ts) (h : trE Z N true sc e = some s) (hc : isComp e = false) (hw : ∀ env : PySem.Env, env.scope = sc → swappedStores [.Tuple es j q] e env = pure none) : OkS Z Γ N sc (.Assign [.Tuple es j q] e p) (.asgT ts s) := fun fl X B g => by
  have O := (okE (Γ := Γ) h).2 fl X B g
  have h1 : trT N true sc (.Tuple es j q) = some (.tp ts) := by rw [trT, ht]; rfl
  rw [ex]
  exact ds_asgT O.1 ((trT_ok _ h1).2 fl X B g) (sw_tup (tg := e) h hc) (hw _ g.hsc) rfl fun d env r => asT_ok
theorem ok_setIx {x : Str} {px q : Pos} {i : Nat} (hc : isComp e = false) (hi : trV N sc x = some i) (hk : trE Z N true sc k = some t) (h : trE Z N true sc e = some s) : OkS Z Γ N sc (.Assign [.Subscript (.Name x px) k q] e p) (.setIx i t s) := fun fl X B g => by
  obtain ⟨h1, h2, h3, h4⟩ := trV_ok hi
  have O := (okE (Γ := Γ) h).2 fl X B g
  have O2 := (okE (Γ := Γ) hk).2 fl X B g
  have gN := g.hN
  have gs := g.hsc
  subst gN gs
  rw [ex]
  refine ds_setIx h1 h2 h3 h4 O.1 O2.1 (sw_no (tg := some (.Subscript (.Name x px) k q)) (l := p.line) (env := X.env) h hc) fun v => ?_
  cases k <;> first | (rw [assign]; done) | (rw [assign]; rfl) | (simp [trE] at hk; done)
theorem swap_some {x y : Str} {px py q q2 : Pos} {j k2 : Nat} {env : PySem.Env} (hk : env.scope.kind = .function) (h1 : env.scope.names.lookup x = some .local) (h2 : env.scope.names.lookup y = some .local) (hl : (px.line == py.line) = true) (hxy : x ≠ y)
    (ha : noStar a = true) (hb : noStar b = true) (hf : [a, b].all (foldedForSure 8) = false) (hc : [a, b].all (constantsAlone 8) = false) :
    swappedStores [.Tuple [.Name x px, .Name y py] j q] (.Tuple [a, b] k2 q2) env = pure (some [x, y]) := by
  have hbk : env.blockKind = .function := by unfold Env.blockKind; rw [hk]; rfl
  have k1 : env.kindOf x = some .local := h1
  have k2 : env.kindOf y = some .local := h2
  have hl' : py.line = px.line := (beq_iff_eq.mp hl).symm
  have hne : ([a, b].any fun | .Starred .. => true | _ => false) = false := by
    cases a <;> first | (cases ha; done) | skip
    all_goals (cases b <;> first | (cases hb; done) | rfl)
  unfold swappedStores
  simp only [hbk, hf, hc, hne]
  simp only [List.filterMap_cons, List.filterMap_nil, k1, k2, Expr.pos, List.head?_cons, Option.map_some, Option.getD_some, hl', beq_self_eq_true, Bool.and_self, if_true]
  have : ([x, y] : List Str).eraseDups.length = 2 := by
    have hyx : (y == x) = false := by simpa using Ne.symm hxy
    simp [List.eraseDups_cons, hyx]
  simp [this]
  intro h
  exfalso
  rcases h with h | h
  · cases a <;> first | (cases ha; done) | (cases h; done)
  · cases b <;> first | (cases hb; done) | (cases h; done)
theorem ok_par {x y : Str} {px py q q2 : Pos} {j k2 : Nat} {i i2 : Nat} (hl1 : sc.names.lookup x = some .local) (hl2 : sc.names.lookup y = some .local) (hl : (px.line == py.line) = true) (hxy : x ≠ y)
    (hf : [a, b].all (foldedForSure 8) = false) (hc : [a, b].all (constantsAlone 8) = false) (hi : trL N true sc x = some i) (hi2 : trL N true sc y = some i2) (ha : trE Z N true sc a = some s) (hb : trE Z N true sc b = some t) :
    OkS Z Γ N sc (.Assign [.Tuple [.Name x px, .Name y py] j q] (.Tuple [a, b] k2 q2) p) (.par i i2 s t) := fun fl X B g => by
  obtain ⟨h1, _⟩ := trL_ok hi
  obtain ⟨h2, _⟩ := trL_ok hi2
  have O := okE (Γ := Γ) ha
  have O2 := okE (Γ := Γ) hb
  have P1 := (O.2 fl X B g).1
  have P2 := (O2.2 fl X B g).1
  have gN := g.hN
  have gs := g.hsc
  subst gN gs
  rw [ex]
  exact ds_par g.pin g.calm g.nd h1 h2 (fun z => hxy (by rw [z, h2] at h1; exact (Option.some.inj h1).symm)) hl1 hl2 P1 P2 ⟨O.1, O2.1⟩ (swap_some g.kind hl1 hl2 hl hxy O.1 O2.1 hf hc)
theorem ok_aug {x : Str} {px : Pos} {op : Operator} {o : Op2} {i : Nat} (ho : trOpI op = some o) (hi : trL N true sc x = some i) (h : trE Z N true sc e = some s) : OkS Z Γ N sc (.AugAssign (.Name x px) op e p) (.aug i o s) := fun fl X B g => by
  obtain ⟨h1, h2⟩ := trL_ok hi
  have O := ((okE (Γ := Γ) h).2 fl X B g).1
  have gN := g.hN
  have gs := g.hsc
  subst gN gs
  rw [ex]
  exact ds_aug g.pin g.nd h1 (h2.imp id (·.1)) (h2.elim .inr fun h => .inl (g.fnc rfl _ h.1)) (by cases op <;> first | exact ho | cases ho) O
theorem ok_augIx {x : Str} {px q : Pos} {op : Operator} {o : Op2} {i : Nat} (ho : trOpI op = some o) (hi : trV N sc x = some i) (hk : trE Z N true sc k = some t) (h : trE Z N true sc e = some s) : OkS Z Γ N sc (.AugAssign (.Subscript (.Name x px) k q) op e p) (.augIx i t o s) := fun fl X B g => by
  obtain ⟨h1, h2, h3, h4⟩ := trV_ok hi
  have O := ((okE (Γ := Γ) h).2 fl X B g).1
  have O2 := ((okE (Γ := Γ) hk).2 fl X B g).1
  have gN := g.hN
  have gs := g.hsc
  subst gN gs
  rw [ex]
  refine ds_augIx h1 h2 h3 h4 (by cases op <;> first | exact ho | cases ho) O O2 fun ov iv new => ?_
  cases k <;> first | rfl | (simp [trE] at hk; done)
theorem ok_retv {x : Str} {px : Pos} {i : Nat} (hi : trV N sc x = some i) : OkS Z Γ N sc (.Return (some (.Name x px)) p) (.ret (.var i)) := fun fl X B g => by
  obtain ⟨h1, h2, h3, h4⟩ := trV_ok hi
  have gN := g.hN
  have gs := g.hsc
  subst gN gs
  rw [ex]
  exact ds_ret (ds_retv (Γ := Γ) h1 h2 h3 h4)
theorem ok_ret (h : trE Z N true sc e = some s) (hv : isVarE s = false) : OkS Z Γ N sc (.Return (some e) p) (.ret s) := fun fl X B g => by
  have O := ((okE (Γ := Γ) h).2 fl X B g).1
  have hr : retF Γ s (ev Γ s).1 = (ev Γ s).1 := by cases s <;> first | rfl | cases hv
  rw [ex, hr]
  exact ds_ret O
theorem ok_retN : OkS Z Γ N sc (.Return none p) (.ret (.cst .non)) := fun fl X B g => by
  rw [ex]
  refine ps_retN.mono fun D σ H ⟨A0, F, env, w, q⟩ => ?_
  have := tAtX_some (o := .ret .non env) q (by rw [ev]; rfl)
  exact this .non σ H F [] (Tr.refl.less fun b z => z.elim (fun z => nomatch z) id) (w.less fun b z => z.elim id fun z => nomatch z) (.pu .non) fun b z => nomatch z
theorem ok_expr (h : trE Z N true sc e = some s) (hc : isComp e = false) : OkS Z Γ N sc (.Expr e p) (.expr s) := fun fl X B g => by
  exact ds_expr ((okE (Γ := Γ) h).2 fl X B g).1 (sw_no h hc) (by rw [ex])
theorem ok_append {x : Str} {px ap cp : Pos} {i : Nat} (hl : (ap.endLine == cp.line) = true) (hi : trV N sc x = some i) (h : trE Z N true sc e = some s) : OkS Z Γ N sc (.Expr (.Call (.Attribute (.Name x px) "append" ap) [e] [] cp) p) (.mut .append i (.cons s .nil)) := fun fl X B g => by
  obtain ⟨h1, h2, h3, h4⟩ := trV_ok hi
  have O := okE (Γ := Γ) h
  have P1 := (O.2 fl X B g).1
  have gN := g.hN
  have gs := g.hsc
  subst gN gs
  rw [ex, evs, evs]
  exact ds_append h1 h2 h3 h4 P1 O.1 hl
theorem ok_if {c : Expr} {xs ys : List Stmt} {ss ts : Ss} (h : trE Z N true sc c = some s) (h1 : OkSs Z Γ N sc xs ss) (h2 : OkSs Z Γ N sc ys ts) : OkS Z Γ N sc (.If c xs ys p) (.if_ s ss ts) := fun fl X B g => by
  rw [ex]
  exact ds_if ((okE (Γ := Γ) h).2 fl X B g).2.2 (h1 fl X B g) (h2 fl X B g)
theorem ok_while {c : Expr} {xs : List Stmt} {ss : Ss} (h : trE Z N true sc c = some s) (h1 : OkSs Z Γ N sc xs ss) : OkS Z Γ N sc (.While c xs [] p) (.while_ s ss) := fun fl X B g => by
  rw [ex]
  exact ds_while (g.own rfl) ((okE (Γ := Γ) h).2 fl X B g).2.2 (h1 fl X B g)
theorem ok_for {tg it : Expr} {xs : List Stmt} {ss : Ss} {t : T} {i : It} (hi : ((trI Z N true sc it).or ((trE Z N true sc it).map .e)) = some i) (ht : trT N true sc tg = some t) (hok : okTg i t = true) (h1 : OkSs Z Γ N sc xs ss) : OkS Z Γ N sc (.For tg it xs [] p) (.for_ t i ss) := fun fl X B g => by
  have oi := okI (Γ := Γ) hi
  rw [ex]
  exact ds_for (g.own rfl) g.calm (oi.2 fl X B g tg (tgI_of ht hok)) ((trT_ok tg ht).2 fl X B g) (h1 fl X B g) (fun d env r => asT_ok) (oi.1 X.env)
theorem tX_fail {X : Cx} {C : Cf} {st : Stmt} : PS X st (tX C fun _ => none) := ⟨fun _ _ _ _ _ _ ⟨_, _, _, _, _, e, _⟩ => by cases e⟩
theorem ok_raise {x : Str} {px q : Pos} {c : Nat} (hg : isG sc x = true) (hx : idx? Z.xs x = some c) (h : trE Z N true sc e = some s) : OkS Z Γ N sc (.Raise (some (.Call (.Name x px) [e] [] q)) none p) (.raise_ c s) := fun fl X B g => by
  have O := okE (Γ := Γ) h
  rw [ex]
  obtain ⟨C, f, hC, hM⟩ := g.mkx rfl c x (idx_get hx)
  exact ds_raise g.calm g.tk hC (hM hg) O.1 (O.2 fl X B g).1
theorem ok_brk : OkS Z Γ N sc (.Break p) .brk := fun fl X B g => by
  rw [ex]
  exact ps_break.mono fun D σ H ⟨A0, F, env, w, q⟩ => tAtX_some (o := .brk env) q rfl σ H F Tr.refl w
theorem ok_cont : OkS Z Γ N sc (.Continue p) .cont := fun fl X B g => by
  rw [ex]
  exact ps_continue.mono fun D σ H ⟨A0, F, env, w, q⟩ => tAtX_some (o := .ct env) q rfl σ H F Tr.refl w
theorem okss_nil : OkSs Z Γ N sc [] .nil := fun fl X B g => dss_nil
theorem okss_cons {st : Stmt} {ss : List Stmt} {x : S} {xs : Ss} (h1 : OkS Z Γ N sc st x) (h2 : OkSs Z Γ N sc ss xs) : OkSs Z Γ N sc (st :: ss) (.cons x xs) := fun fl X B g => dss_cons (h1 fl X B g) (h2 fl X B g)
theorem swap_one {x y : Str} {px py q q2 : Pos} {j k2 : Nat} {env : PySem.Env} (h : (locN env.scope (.Name x px) && locN env.scope (.Name y py)) = false) : swappedStores [.Tuple [.Name x px, .Name y py] j q] (.Tuple [a, b] k2 q2) env = pure none := by
  have hk : ∀ z, env.kindOf z = env.scope.names.lookup z := fun _ => rfl
  unfold locN at h
  unfold swappedStores
  simp only [List.filterMap_cons, List.filterMap_nil, hk, Expr.pos, List.head?_cons, Option.map_some, Option.getD_some]
  by_cases c : env.scope.names.lookup x = some .local
  · have c2 : ¬ env.scope.names.lookup y = some .local := fun c2 => by simp [c, c2] at h
    have c3 : (env.scope.names.lookup y == some .local) = false := by simpa using c2
    simp only [c3, Bool.false_and]
    cases (env.scope.names.lookup x == some .local && px.line == px.line) <;> simp
  · have c3 : (env.scope.names.lookup x == some .local) = false := by simpa using c
    simp only [c3, Bool.false_and]
    cases (env.scope.names.lookup y == some .local && py.line == px.line) <;> simp
theorem swap_non {es : List Expr} {q : Pos} {j : Nat} {env : PySem.Env} (h : isTup e = false) : swappedStores [.Tuple es j q] e env = pure none := by
  cases e <;> first | rfl | (cases h; done)
structure AllOkS (Z : Tx) (Γ : Sig) (N : List Str) (sc : Scope) (n : Nat) : Prop where
  s : ∀ (st : Stmt) {s : S}, sizeOf st < n → trS Z N sc st = some s → OkS Z Γ N sc st s
  ss : ∀ (st : List Stmt) {s : Ss}, sizeOf st < n → trSs Z N sc st = some s → OkSs Z Γ N sc st s
theorem trSs_ok {n : Nat} (ih : AllOkS Z Γ N sc n) : ∀ (st : List Stmt) {s : Ss}, sizeOf st < n + 1 → trSs Z N sc st = some s → OkSs Z Γ N sc st s
  | [], s, hn, h => by
    rw [trSs] at h
    cases h
    exact okss_nil
  | st :: ss, s, hn, h => by
    rw [trSs] at h
    obtain ⟨sa, ha, h⟩ := Option.bind_eq_some_iff.mp h
    obtain ⟨sb, hb, rfl⟩ := Option.map_eq_some_iff.mp h
    exact okss_cons (ih.s st (by simp at hn; omega) ha) (ih.ss ss (by simp at hn; omega) hb)
theorem trS_ok {n : Nat} (ih : AllOkS Z Γ N sc n) : ∀ (st : Stmt) {s : S}, sizeOf st < n + 1 → trS Z N sc st = some s → OkS Z Γ N sc st s
  | .Assign tgs e p, s, hn, h => by
    unfold trS at h
    split at h
    · obtain ⟨i, hi, h⟩ := Option.bind_eq_some_iff.mp h
      obtain ⟨sb, hb, rfl⟩ := Option.map_eq_some_iff.mp h
      exact ok_asg hi hb
    · split at h
      · cases h
      · rename_i hc
        obtain ⟨i, hi, h⟩ := Option.bind_eq_some_iff.mp h
        obtain ⟨sk, hk, h⟩ := Option.bind_eq_some_iff.mp h
        obtain ⟨sb, hb, rfl⟩ := Option.map_eq_some_iff.mp h
        exact ok_setIx (by simpa using hc) hi hk hb
    · split at h
      · split at h
        · rename_i hl
          split at h
          · rename_i hg
            simp only [Bool.and_eq_true, decide_eq_true_eq, Bool.not_eq_true', locN] at hg hl
            obtain ⟨⟨⟨g1, g2⟩, g3⟩, g4⟩ := hg
            obtain ⟨i, hi, h⟩ := Option.bind_eq_some_iff.mp h
            obtain ⟨i2, hi2, h⟩ := Option.bind_eq_some_iff.mp h
            obtain ⟨sk, hk, h⟩ := Option.bind_eq_some_iff.mp h
            obtain ⟨sb, hb, rfl⟩ := Option.map_eq_some_iff.mp h
            exact ok_par hl.1 hl.2 g1 g2 g3 g4 hi hi2 hk hb
          · cases h
        · rename_i hl
          obtain ⟨ts, ht, h⟩ := Option.bind_eq_some_iff.mp h
          obtain ⟨sb, hb, rfl⟩ := Option.map_eq_some_iff.mp h
          exact ok_asgT ht hb rfl fun env he => swap_one (by rw [he]; simpa using hl)
      · split at h
        · cases h
        · rename_i hc
          simp only [Bool.or_eq_true, not_or, Bool.not_eq_true] at hc
          obtain ⟨ts, ht, h⟩ := Option.bind_eq_some_iff.mp h
          obtain ⟨sb, hb, rfl⟩ := Option.map_eq_some_iff.mp h
          exact ok_asgT ht hb hc.2 fun env he => swap_non hc.1
    · cases h
  | .AugAssign t op e p, s, hn, h => by
    unfold trS at h
    split at h
    · obtain ⟨o, ho, h⟩ := Option.bind_eq_some_iff.mp h
      obtain ⟨i, hi, h⟩ := Option.bind_eq_some_iff.mp h
      obtain ⟨sb, hb, rfl⟩ := Option.map_eq_some_iff.mp h
      exact ok_aug ho hi hb
    · obtain ⟨o, ho, h⟩ := Option.bind_eq_some_iff.mp h
      obtain ⟨i, hi, h⟩ := Option.bind_eq_some_iff.mp h
      obtain ⟨sk, hk, h⟩ := Option.bind_eq_some_iff.mp h
      obtain ⟨sb, hb, rfl⟩ := Option.map_eq_some_iff.mp h
      exact ok_augIx ho hi hk hb
    · cases h
  | .Return o p, s, hn, h => by
    unfold trS at h
    split at h
    · cases h
      exact ok_retN
    · split at h
      · obtain ⟨i, hi, rfl⟩ := Option.map_eq_some_iff.mp h
        exact ok_retv hi
      · obtain ⟨sb, hb, h⟩ := Option.bind_eq_some_iff.mp h
        split at h
        · cases h
        · rename_i hv
          cases h
          exact ok_ret hb (by simpa using hv)
  | .Expr e p, s, hn, h => by
    unfold trS at h
    split at h
    · split at h
      · rename_i hg
        simp only [Bool.and_eq_true, decide_eq_true_eq] at hg
        obtain ⟨hm, hl⟩ := hg
        obtain ⟨i, hi, h⟩ := Option.bind_eq_some_iff.mp h
        obtain ⟨sb, hb, rfl⟩ := Option.map_eq_some_iff.mp h
        rw [hm]
        exact ok_append hl hi hb
      · cases h
    · split at h
      · cases h
      · rename_i hc
        obtain ⟨sb, hb, rfl⟩ := Option.map_eq_some_iff.mp h
        exact ok_expr hb (by simpa using hc)
  | .If c a b p, s, hn, h => by
    unfold trS at h
    obtain ⟨sc', hc, h⟩ := Option.bind_eq_some_iff.mp h
    obtain ⟨sa, ha, h⟩ := Option.bind_eq_some_iff.mp h
    obtain ⟨sb, hb, rfl⟩ := Option.map_eq_some_iff.mp h
    exact ok_if hc (ih.ss a (by simp at hn; omega) ha) (ih.ss b (by simp at hn; omega) hb)
  | .While c b o p, s, hn, h => by
    unfold trS at h
    split at h
    · obtain ⟨sc', hc, h⟩ := Option.bind_eq_some_iff.mp h
      obtain ⟨sb, hb, rfl⟩ := Option.map_eq_some_iff.mp h
      exact ok_while hc (ih.ss b (by simp at hn; omega) hb)
    · cases h
  | .For t it b o p, s, hn, h => by
    unfold trS at h
    split at h
    · obtain ⟨i, hi, h⟩ := Option.bind_eq_some_iff.mp h
      obtain ⟨tt, ht, h⟩ := Option.bind_eq_some_iff.mp h
      split at h
      case isFalse => cases h
      rename_i hok
      obtain ⟨sb, hb, rfl⟩ := Option.map_eq_some_iff.mp h
      exact ok_for hi ht hok (ih.ss b (by simp at hn; omega) hb)
    · cases h
  | .Raise e c p, s, hn, h => by
    unfold trS at h
    split at h
    · split at h
      · rename_i hg
        obtain ⟨i, hi, h⟩ := Option.bind_eq_some_iff.mp h
        obtain ⟨sb, hb, rfl⟩ := Option.map_eq_some_iff.mp h
        exact ok_raise hg hi hb
      · cases h
    · cases h
  | .Pass p, s, hn, h => by
    unfold trS at h
    cases h
    exact fun fl X B g => ds_pass
  | .Break p, s, hn, h => by
    unfold trS at h
    cases h
    exact ok_brk
  | .Continue p, s, hn, h => by
    unfold trS at h
    cases h
    exact ok_cont
  | .FunctionDef .., s, hn, h | .AsyncFunctionDef .., s, hn, h | .ClassDef .., s, hn, h | .Delete .., s, hn, h | .TypeAlias .., s, hn, h | .AnnAssign .., s, hn, h | .AsyncFor .., s, hn, h | .With .., s, hn, h | .AsyncWith .., s, hn, h | .Match .., s, hn, h
  | .Try .., s, hn, h | .TryStar .., s, hn, h | .Assert .., s, hn, h | .Import .., s, hn, h | .ImportFrom .., s, hn, h | .Global .., s, hn, h | .Nonlocal .., s, hn, h => by
    simp [trS] at h
theorem allOkS : ∀ n, AllOkS Z Γ N sc n
  | 0 => ⟨fun _ _ h => absurd h (Nat.not_lt_zero _), fun _ _ h => absurd h (Nat.not_lt_zero _)⟩
  | n + 1 => ⟨trS_ok (allOkS n), trSs_ok (allOkS n)⟩
/-- a body of statements is what is read of it -/
theorem okSs {st : List Stmt} {s : Ss} (h : trSs Z N sc st = some s) : OkSs Z Γ N sc st s := (allOkS (sizeOf st + 1)).ss st (Nat.lt_succ_self _) h
end
end
end Dz

set_option Elab.async false
set_option linter.all false
set_option maxRecDepth 100000
set_option maxHeartbeats 4000000
/-! Dz, part 17: a def by its body. -/
namespace Dz
open PySem PySem.Spec PyProof.Rows L2
/-- the rule of a def by its body, where no display is being shown -/
theorem fnG_of {P : Program} {w : World} {K : PySem.W.Frag} {mg : Str → Option Value} {base : Heap} {k : Nat} {f : Addr} {name qual : Str} {params : Arguments} {body : List Stmt} {scope : Scope} {dV kV doc pm cdv ct oc : Value} {an od : Option Addr}
    {osl : Array (Option Value)} {N ps : List Str} {sp : Sp} (lk : K.lookup f = some ⟨oc, od, .func (PySem.W.fnOf name qual params body scope dV kV doc pm an cdv ct), osl⟩) (hcd : PySem.W.codeIn K cdv qual = true) (S : FnScope N ps scope)
    (len : ∀ vs H Q E, sp vs H Q E → vs.length = ps.length)
    (hb : ∀ (A : Around) (outer : List PySem.Env) (s : Shared) (H : Hp) (vs : List V) (Q : VK) (E : XK), A.guards = some [] → Room k (A.deeper (envOfC qual scope s.heap.objs.size f cdv)) → sp vs H Q E →
      ∃ t, PSs (cxOf (L2.CX P w) P w K mg base N qual scope f cdv A outer s H E) body t ∧ t { nx := fun _ H' => Q .non H', rt := Q } (start N vs) H) :
    FnG P w K mg base (k + 1) f (PySem.W.fnOf name qual params body scope dV kV doc pm an cdv ct) ps sp := by
  refine ⟨len, fun A outer s H args us vs Q E hr hg e0 bt r hsp => ?_⟩
  have hl := len _ _ _ _ hsp
  have KX : K.In s.heap := e0.mod.kin.keeps fun b o e => (e0.bs b o e).1
  have hkd : ∀ y ∈ ps.zip us, scope.names.lookup y.1 = some .local ∨ (scope.names.lookup y.1 = some .cell ∧ ((cellsFrom (s.heap.objs.size + 1) scope.names []).lookup y.1).isSome = true) := fun ⟨n, v⟩ hy =>
    (S.par n (List.of_mem_zip hy).1).imp id fun q => ⟨q, PySem.W.cellsFrom_some _ _ _ (.inl q)⟩
  refine codeAny_call_function hr.depth (KX _ _ lk) rfl S.co S.gen rfl (PySem.W.codeRec_of KX hcd) (bt _ _ _ _ ?_)
  refine wpAny_newFunctionEnv_cells S.kind hkd fun env he s1 x => ?_
  subst he
  refine ⟨(e0.mod.nolimit.keeps fun b o e => (e0.bs b o e).1).keeps x.toInCall.keep, codeAny_func ?_⟩
  obtain ⟨t, ht, hq⟩ := hb A outer s H vs Q E hg (hr.deeper _) hsp
  refine wpAny_mono (ht.run [] s1 (start N vs) H _ (inv_start S hr.hd e0 hl r x) hq) (fun fl s' hs => ?_) fun e s' hs => hs
  cases fl with
  | ret u =>
    obtain ⟨v, σ', H', J, rv, q⟩ := hs
    exact ⟨v, H', J.os, J.bare, J.base, J.hok, rv, q⟩
  | next =>
    obtain ⟨σ', H', J, q⟩ := hs
    exact ⟨.non, H', J.os, J.bare, J.base, J.hok, rfl, q⟩
  | brk => exact False.elim hs.choose_spec.choose_spec.2
  | cont => exact False.elim hs.choose_spec.choose_spec.2

/-- what is not changed is not owned -/
def okArgs : List Bool → List D → Bool
  | [], [] => true
  | m :: ms, d :: ds => (m || !d.isOwn) && okArgs ms ds
  | _, _ => false
/-- the meaning of a def -/
def fnD (Γ : Sig) (muts : List Bool) (n : Nat) (ss : Ss) : Fn := ⟨muts, fun ds => if okArgs muts ds then body Γ muts n ss ds else none⟩
theorem okArgs_at : ∀ {ms : List Bool} {ds : List D}, okArgs ms ds = true → ∀ (k : Nat) d, ds[k]? = some d → ms.getD k false = false → d.isOwn = false
  | [], [], _, k, d, e, _ => by simp at e
  | [], _ :: _, h, _, _, _, _ => by cases h
  | _ :: _, [], h, _, _, _, _ => by cases h
  | m :: ms, x :: ds, h, k, d, e, hm => by
    rw [okArgs, Bool.and_eq_true] at h
    cases k with
    | zero =>
      simp at e hm
      subst e hm
      simpa using h.1
    | succ k => exact okArgs_at h.2 k d (by simpa using e) (by simpa using hm)
theorem outsOf_at : ∀ {ms : List Bool} {ds os : List D} {env : Env} {k : Nat}, outsOf env ms ds k = some os → os.length = ds.length ∧ ∀ (j : Nat) d, os[j]? = some d →
    (ms.getD j false = true ∧ env[k + j]? = some (some d)) ∨ (ms.getD j false = false ∧ ds[j]? = some d)
  | [], [], os, env, k, h => by
    rw [outsOf] at h
    cases h
    exact ⟨rfl, fun j d e => by simp at e⟩
  | [], _ :: _, _, _, _, h => by simp [outsOf] at h
  | true :: _, [], _, _, _, h => by simp [outsOf] at h
  | false :: _, [], _, _, _, h => by simp [outsOf] at h
  | true :: ms, x :: ds, os, env, k, h => by
    rw [outsOf] at h
    split at h
    · rename_i d0 hd
      obtain ⟨r, hr, rfl⟩ := Option.map_eq_some_iff.mp h
      obtain ⟨l, g⟩ := outsOf_at hr
      refine ⟨by simp [l], fun j d e => ?_⟩
      cases j with
      | zero => simp at e; subst e; exact .inl ⟨rfl, by simpa using hd⟩
      | succ j =>
        have := g j d (by simpa using e)
        simpa [Nat.add_assoc, Nat.add_comm 1 j] using this
    · cases h
  | false :: ms, x :: ds, os, env, k, h => by
    rw [outsOf] at h
    obtain ⟨r, hr, rfl⟩ := Option.map_eq_some_iff.mp h
    obtain ⟨l, g⟩ := outsOf_at hr
    refine ⟨by simp [l], fun j d e => ?_⟩
    cases j with
    | zero => simp at e; subst e; exact .inr ⟨rfl, by simp⟩
    | succ j =>
      have := g j d (by simpa using e)
      simpa [Nat.add_assoc, Nat.add_comm 1 j] using this
section
variable {C : Cf} {A0 : As} {F F1 : Fo} {H H' : Hp} {vs : List V} {ds outs : List D} {env : Env} {σ : L2.St} {S : List Addr} {muts : List Bool} {N : List Str}
/-- at the entry -/
theorem start_wf (w : Wf C.K C.T A0 C.P F H (vs.map some) (ds.map some)) (hn : vs.length ≤ N.length) : Wf C.K C.T A0 C.P F H (start N vs) (ds.map some ++ List.replicate (N.length - ds.length) none) := by
  have hl : ds.length = vs.length := by have := w.len; simpa using this
  have look : ∀ (i : Nat) (d : D), (ds.map some ++ List.replicate (N.length - ds.length) none)[i]? = some (some d) → (ds.map some)[i]? = some (some d) := fun i d e => by
    by_cases hi : i < ds.length
    · rwa [List.getElem?_append_left (by simpa using hi)] at e
    · rw [List.getElem?_append_right (by simpa using hi), List.getElem?_replicate] at e
      split at e <;> cases e
  have lookV : ∀ (i : Nat) (v : V), (vs.map some)[i]? = some (some v) → (start N vs)[i]? = some (some v) := fun i v e => by
    unfold L2.start
    have hi : i < vs.length := by
      have := (List.getElem?_eq_some_iff.mp e).1
      simpa using this
    rw [List.getElem?_append_left (by simpa using hi)]
    exact e
  refine ⟨by unfold L2.start; simp; omega, fun i d e => ?_, fun i h => ?_, w.disj, w.out, w.dom, w.tabs, fun i p e => lookV i _ (w.pins i p e)⟩
  · obtain ⟨v, h1, h2⟩ := w.slot i d (look i d e)
    exact ⟨v, lookV i v h1, h2⟩
  · refine w.emp i fun d e => h d ?_
    have hi : i < ds.length := by
      have := (List.getElem?_eq_some_iff.mp e).1
      simpa using this
    rw [List.getElem?_append_left (by simpa using hi)]
    exact e
def pinF (P : Nat → Option Addr) (F : Fo) : Fo := fun k => if (P k).isSome then F k else []
theorem pinF_le {P : Nat → Option Addr} : ∀ b, ow (pinF P F) b → ow F b := fun b ⟨j, h⟩ => by
  unfold pinF at h
  split at h
  · exact ⟨j, h⟩
  · cases h
/-- at the end -/
theorem end_wf (w : Wf C.K C.T A0 C.P F H (vs.map some) (ds.map some)) (hm : ∀ k, muts.getD k false = (C.P k).isSome) (ok : okArgs muts ds = true) (w1 : Wf C.K C.T (cup A0 (inL S)) C.P F1 H' σ env) (t : Tr (ow F) H (cup (inL S) (ow F1)) H') (ho : outsOf env muts ds 0 = some outs) (hS : ∀ b ∈ S, ¬ A0 b) :
    Wf C.K C.T (cup A0 (inL S)) C.P (pinF C.P F1) H' (vs.map some) (outs.map some) := by
  obtain ⟨ho1, ho2⟩ := outsOf_at ho
  have hl : ds.length = vs.length := by have := w.len; simpa using this
  have st : Stays (cup A0 (ow F)) H (cup (cup A0 (inL S)) (ow (pinF C.P F1))) H' := fun a o h n nn => by
    refine ⟨t.keep a o h (fun z => n (.inr z)) nn, fun z => ?_⟩
    have : A0 a ∨ cup (inL S) (ow F1) a := by
      rcases z with (z | z) | z
      · exact .inl z
      · exact .inr (.inl z)
      · exact .inr (.inr (pinF_le a z))
    rcases this with z | z
    · exact n (.inl z)
    · rcases t.grow a z with y | y
      · exact n (.inr y)
      · rw [h] at y; cases y
  have le : ∀ b, cup (cup A0 (inL S)) (ow (pinF C.P F1)) b → cup (cup A0 (inL S)) (ow F1) b := fun b z => z.imp id (pinF_le b)
  refine ⟨by simp [ho1, hl], fun k d e => ?_, fun k h => ?_, fun i j b h1 h2 => ?_, fun b z => w1.out b (pinF_le b z), w1.dom, w1.tabs, w.pins⟩
  · have e := map_get e
    rcases ho2 k d e with ⟨hk, he⟩ | ⟨hk, he⟩
    · rw [Nat.zero_add] at he
      have hP : (C.P k).isSome = true := by rw [← hm]; exact hk
      obtain ⟨p, hp⟩ := Option.isSome_iff_exists.mp hP
      obtain ⟨v, h1, h2⟩ := w1.slot k d he
      rw [w1.pins k p hp] at h1
      cases h1
      have : pinF C.P F1 k = F1 k := by unfold pinF; rw [if_pos hP]
      rw [this]
      exact ⟨_, w.pins k p hp, h2.stay (stays_less le) fun _ _ _ q => q⟩
    · have hP : ¬ (C.P k).isSome = true := by rw [← hm, hk]; simp
      have no := okArgs_at ok k d he hk
      obtain ⟨v, h1, h2⟩ := w.slot k d (get_map he)
      have pu := h2.frozen (Av' := cup A0 (ow F)) (fun _ z => z) fun b hb => by rw [w.emp k fun d' e' => by rw [get_map he] at e'; cases e'; exact no] at hb; cases hb
      rw [D.fz_of no] at pu
      have : pinF C.P F1 k = [] := by unfold pinF; rw [if_neg hP]
      rw [this]
      exact ⟨v, h1, .pu (pu.stay st)⟩
  · unfold pinF
    split
    · rename_i hP
      refine w1.emp k fun d e => ?_
      by_cases hk : k < outs.length
      · have e2 : outs[k]? = some outs[k] := by simp [hk]
        rcases ho2 k _ e2 with ⟨h1, h2⟩ | ⟨h1, h2⟩
        · rw [Nat.zero_add, e] at h2
          cases h2
          exact h _ (get_map e2)
        · rw [hm, hP] at h1; cases h1
      · obtain ⟨p, hp⟩ := Option.isSome_iff_exists.mp hP
        have h3 := w.pins k p hp
        have := (List.getElem?_eq_some_iff.mp h3).1
        simp at this
        omega
    · rfl
  · unfold pinF at h1 h2
    split at h1
    · split at h2
      · exact w1.disj i j b h1 h2
      · cases h2
    · cases h1
end
/-- the code object of the function at f -/
def CodeOf (K : PySem.W.Frag) (f : Addr) (cd : Value) : Prop := ∃ oc od fd osl, K.lookup f = some ⟨oc, od, .func fd, osl⟩ ∧ fd.code = cd
/-- what is known of the text where a body runs: the defs that it calls, the names of built-ins, .. -/
structure Fct (Z : Tx) (Γ : Sig) (fl : Nat) (P : Program) (w : World) (K : PySem.W.Frag) (mg : Str → Option Value) (base : Heap) (T : Tb) (ec : Nat → Option (Addr × Str)) : Prop where
  fns : ∀ f F, Γ.fn f = some F → ∀ x, Z.fs[f]? = some x → ∃ a fd ps, mg x = some (.ref a) ∧ PySem.W.keepIn K (.ref a) = true ∧ Binds K fd ps [] ∧ FnG P w K mg base fl a fd ps (spF (cf0 K T ec) F)
  blt : ∀ f, mg (biV f).1 = none
  rng : mg "range" = none
  enu : mg "enumerate" = none ∧ mg "zip" = none
  mkx : ∀ (X : Cx), X.prog = P → X.w = w → X.K = K → X.mg = mg → X.base = base → X.calm = true → Room (fl + 2) X.A → ∀ c x, Z.xs[c]? = some x → ∃ C f, ec c = some (C, f) ∧ (isG X.env.scope x = true → MkX X C f x)
/-- the tellers that the def at f calls with a lambda of its own -/
def Hrd (Z : Tx) (Γ : Sig) (fl : Nat) (P : Program) (w : World) (K : PySem.W.Frag) (mg : Str → Option Value) (base : Heap) (T : Tb) (ec : Nat → Option (Addr × Str)) (f : Addr) (qual : Str) : Prop :=
  ∀ (X : Cx) (B : Bs), X.prog = P → X.w = w → X.K = K → X.mg = mg → X.base = base → B.T = T → B.ec = ec → X.A.guards = some [] → Room (fl + 2) X.A → CodeOf K f X.env.code → X.env.qual = qual ++ ".<locals>." → ∀ k x, Z.ts[k]? = some x → HeardAt fl X B Γ k x
section
variable {P : Program} {w : World} {K : PySem.W.Frag} {mg : Str → Option Value} {base : Heap} {Z : Tx} {Γ : Sig} {fl : Nat} {T : Tb} {ec : Nat → Option (Addr × Str)}
theorem no_hrd {f : Addr} {qual : Str} (h : Z.ts = []) : Hrd Z Γ fl P w K mg base T ec f qual := fun X B _ _ _ _ _ _ _ _ _ _ _ k x e => by rw [h] at e; simp at e
theorem gd_of {N : List Str} {qual : Str} {scope : Scope} {f : Addr} {cdv : Value} {A : Around} {outer : List PySem.Env} {s : Shared} {H : Hp} {E : XK} {P' : Nat → Option Addr} (Fc : Fct Z Γ fl P w K mg base T ec) (nd : N.Nodup) (hk : scope.kind = .function) (hg : A.guards = some [])
    (hr : Room (fl + 2) (A.deeper (envOfC qual scope s.heap.objs.size f cdv))) (hp : PinOk Γ P') (hh : Hrd Z Γ fl P w K mg base T ec f qual) (hc : CodeOf K f cdv) :
    Gd Z Γ N true fl scope (cxOf (L2.CX P w) P w K mg base N qual scope f cdv A outer s H E) ⟨T, P', fun cls d _ H => E cls d H, ec⟩ where
  hN := rfl
  nd := nd
  hsc := rfl
  kind := hk
  calm := rfl
  gd := hg
  room := hr.mono (by omega)
  pin := hp
  tk := takes_of rfl rfl rfl rfl
  fns := fun f F hf x hx => ⟨Fc.fns f F hf x hx⟩
  blt := Fc.blt
  rng := Fc.rng
  enu := Fc.enu
  fnc := fun _ _ _ => rfl
  own := fun _ => passes_of rfl
  hrd := fun _ => hh _ _ rfl rfl rfl rfl rfl rfl rfl hg hr hc rfl
  mkx := fun _ c x hx => Fc.mkx (cxOf (L2.CX P w) P w K mg base N qual scope f cdv A outer s H E) rfl rfl rfl rfl rfl rfl hr c x hx
/-- a def of the text -/
theorem def_ok {x qual : Str} {st : Stmt} {f : Addr} {fd : FuncData} {N ps : List Str} {ss : Ss} {muts : List Bool} (Fc : Fct Z Γ fl P w K mg base T ec) (U : L2.Fun K x qual st f fd) (S : FnScope N ps (defScope st)) (ht : trSs Z N (defScope st) (defBody st) = some ss)
    (hpin : ∀ k, Γ.pin k = muts.getD k false) (hml : muts.length = ps.length) (hh : Hrd Z Γ fl P w K mg base T ec f qual) : FnG P w K mg base (fl + 3) f fd ps (spF (cf0 K T ec) (fnD Γ muts N.length ss)) := by
  obtain ⟨oc, od, kV, doc, pm, an, cdv, ct, osl, rfl, lk, hcd⟩ := U.ex
  have hpl : ps.length ≤ N.length := by have := congrArg List.length S.pre; rw [List.length_take] at this; omega
  have hcn : CodeOf K f cdv := ⟨_, _, _, _, lk, rfl⟩
  refine fnG_of lk hcd S (fun vs H Q E ⟨A0, P', F0, ds, w, hl, _⟩ => ?_) fun A outer s H vs Q E hg hr h => ?_
  · have := w.len
    simp at this
    have hl : ds.length = muts.length := hl
    omega
  · obtain ⟨A0, P', F0, ds, wf, hl, hm, ans, hrun, hpost⟩ := h
    have hl : ds.length = muts.length := hl
    have hm : ∀ k, muts.getD k false = (P' k).isSome := hm
    have hvl : vs.length = ps.length := by have := wf.len; simp at this; omega
    have hp : PinOk Γ P' := fun i hi => by
      rw [hpin, hm] at hi
      exact Option.isSome_eq_false_iff.mp hi |> Option.isNone_iff_eq_none.mp
    have G := gd_of (N := N) (qual := qual) (scope := defScope st) (f := f) (cdv := cdv) (A := A) (outer := outer) (s := s) (H := H) (E := E) Fc S.nd S.kind hg hr hp hh hcn
    refine ⟨_, okSs ht _ _ _ G, ?_⟩
    have hrun : (if okArgs muts ds then body Γ muts N.length ss ds else none) = some ans := hrun
    split at hrun
    · rename_i ok
      have wf0 : Wf K T A0 P' F0 H (start N vs) (ds.map some ++ List.replicate (N.length - ds.length) none) := start_wf (C := ⟨K, T, P', fun _ _ _ _ => False, ec⟩) wf (by omega)
      refine ⟨A0, F0, _, wf0, ?_⟩
      unfold body at hrun
      -- each end
      have done : ∀ (d : D) (env : Env) (os : List D) (v : V) (σ : L2.St) (H' : Hp) (F : Fo) (S : List Addr), outsOf env muts ds 0 = some os → (∀ v H' F1 S, Tr (ow F0) H (cup (inL S) (ow F1)) H' → Wf K T (cup A0 (inL S)) P' F1 H' (vs.map some) (os.map some) → Ow K (cup (cup A0 (inL S)) (ow F1)) H' v d S → (∀ b ∈ S, ¬ A0 b) → (∀ k, P' k = none → F1 k = []) → Q v H') →
          Tr (ow F0) H (cup (inL S) (ow F)) H' → Wf K T (cup A0 (inL S)) P' F H' σ env → Ow K (cup (cup A0 (inL S)) (ow F)) H' v d S → (∀ b ∈ S, ¬ A0 b) → Q v H' := by
        intro d env os v σ H' F S ho q t w1 o nS
        refine q v H' (pinF P' F) S (t.less fun b z => z.imp id (pinF_le b)) (end_wf (C := ⟨K, T, P', fun _ _ _ _ => False, ec⟩) wf hm ok w1 t ho nS) (o.stay (stays_less fun b z => z.imp id (pinF_le b)) fun _ _ _ q => q) nS fun k hk => ?_
        unfold pinF
        rw [hk]
        rfl
      split at hrun
      · rename_i env he
        obtain ⟨os, ho, rfl⟩ := Option.map_eq_some_iff.mp hrun
        refine ⟨.nx env, he, fun σ H' F t w1 => ?_⟩
        exact done .non env os .non σ H' F [] ho hpost (t.less fun b z => z.elim (fun z => nomatch z) id) (w1.less fun b z => z.elim id fun z => nomatch z) (.pu .non) fun b z => nomatch z
      · rename_i d env he
        obtain ⟨os, ho, rfl⟩ := Option.map_eq_some_iff.mp hrun
        exact ⟨.ret d env, he, fun v σ H' F S t w1 o nS => done d env os v σ H' F S ho hpost t w1 o nS⟩
      · rename_i c d env he
        obtain ⟨os, ho, rfl⟩ := Option.map_eq_some_iff.mp hrun
        refine ⟨.exn c d env, he, fun σ H' F cls dd t w1 ex => ?_⟩
        have t' : Tr (ow F0) H (cup (inL []) (ow F)) H' := t.less fun b z => z.elim (fun z => nomatch z) id
        have w1' : Wf K T (cup A0 (inL [])) P' F H' σ env := w1.less fun b z => z.elim id fun z => nomatch z
        have we := end_wf (C := ⟨K, T, P', fun _ _ _ _ => False, ec⟩) wf hm ok w1' t' ho (fun b z => nomatch z)
        obtain ⟨a, f, dx, v, e1, e2, e3, e4, e5⟩ := ex
        refine hpost H' (pinF P' F) cls dd (t.less pinF_le) (we.less fun b z => .inl z) ⟨a, f, dx, v, e1, e2, e3, e4, e5.stay (stays_less fun b z => z.imp id (pinF_le b))⟩ fun k hk => ?_
        unfold pinF
        rw [hk]
        rfl
      · cases hrun
    · cases hrun
end
end Dz

set_option Elab.async false
set_option linter.all false
set_option maxRecDepth 100000
set_option maxHeartbeats 4000000
/-! Dz, part 18: the law's call, from the heap behind the top. -/
namespace Dz
open PySem PySem.Spec PyProof.Rows L2
/-- what is tracked at the law's call: the tables of code objects (tb), and the script at a, where it is none of the module's own objects -/
def atCall (K : PySem.W.Frag) (tb : List Addr) (a : Addr) (u : HO) : Hp := fun b => if b ∈ tb then some (.tbl #[]) else if b = a ∧ (K.lookup a).isNone = true then some u else none
section
variable {K : PySem.W.Frag} {tb : List Addr} {a b : Addr} {u v : HO}
theorem atCall_tb (h : b ∈ tb) : atCall K tb a u b = some (.tbl #[]) := if_pos h
theorem atCall_or (h : atCall K tb a u b ≠ none) : b ∈ tb ∨ (b ∉ tb ∧ b = a ∧ K.lookup a = none ∧ atCall K tb a u b = some u) := by
  unfold atCall at h ⊢
  by_cases h1 : b ∈ tb
  · exact .inl h1
  · rw [if_neg h1] at h ⊢
    by_cases h2 : b = a ∧ (K.lookup a).isNone = true
    · rw [if_pos h2]
      exact .inr ⟨h1, h2.1, Option.isNone_iff_eq_none.mp h2.2, rfl⟩
    · rw [if_neg h2] at h
      exact absurd rfl h
theorem atCall_a (h : a ∉ tb) (hk : K.lookup a = none) : atCall K tb a u a = some u := by
  unfold atCall
  rw [if_neg h, if_pos ⟨rfl, by rw [hk]; rfl⟩]
end
abbrev tabO : Obj := { cls := .none, data := .fields #[] }
abbrev scriptO (vs : List Value) : Obj := { cls := .type "list", data := .seq vs.toArray }
/-- the law's def, promised where no display is shown, answers True -/
theorem law_callG {P : Program} {w : World} {K : PySem.W.Frag} {mg mb : Str → Option Value} {k : Nat} {fa a : Addr} {cs : List (Addr × Addr)} {fd : FuncData} {x : Str} {sp : Sp} {st : Shared} {vs : List Value} {ns : List Int} (KX : K.In st.heap) (hG : st.heap.Ns mainGlobals mg) (hB : st.heap.Ns builtinsNs mb) (hBB : ∀ x : Str, x ≠ "__name__" → mb x = bootBuiltins x) (hNL : st.heap.NoLimit) (hgen : st.gens = #[])
    (tabs : ∀ p ∈ cs, st.heap.get? p.2 = some tabO ∧ K.lookup p.2 = none ∧ PySem.W.CodeHd st.heap p.1 p.2)
    (hmod : ∃ (m : Addr) (o : Obj), mg "__builtins__" = some (.ref m) ∧ m ≠ builtinsNs ∧ st.heap.get? m = some o ∧ o.cls = .type "module" ∧ o.dict = some builtinsNs ∧ o.data = .plain)
    (hscr : st.heap.get? a = some (scriptO vs)) (hint : IntsAre vs ns) (hsz : ns.length ≤ sizeLine) (room : Room k callerA)
    (G : ∀ base : Heap, K.In base → base.Ns mainGlobals mg → (∀ p ∈ cs, LamX.TabB base mg p.1 p.2) → FnG P w K mg base k fa fd [x] sp) (bind : ∀ (s : Shared) (u : Value), BindsTo s fd ⟨[u], []⟩ [(x, u)])
    (pre : ∀ H : Hp, (∀ p ∈ cs, H p.2 = some (.tbl #[])) → (∀ b, H b ≠ none → st.heap.get? b ≠ none) → SqL K H a (ns.map V.int) → sp [.ref a] H (fun v _ => v = .bl true) fun _ _ _ => False) :
    codeAny (model P w) callerA (.call (.ref fa) ⟨[.ref a], []⟩) (fun r s' => r = .ok (.ret (.bool true)) ∧ OldK st.heap s'.heap ∧ s'.os = st.os ∧ AllBare s'.gens) st := by
  let tb := cs.map (·.2)
  have mem : ∀ {b}, b ∈ tb → ∃ p ∈ cs, p.2 = b := fun h => by simpa [tb, List.mem_map] using h
  have tbO : ∀ {b}, b ∈ tb → st.heap.get? b = some tabO := fun h => by
    obtain ⟨p, hp, rfl⟩ := mem h
    exact (tabs p hp).1
  have aNo : a ∉ tb := fun h => by
    have e := tbO h
    rw [hscr] at e
    exact nomatch congrArg Obj.data (Option.some.inj e)
  let u : HO := .frz (scriptO vs) (.lst (ns.map V.int))
  let H : Hp := atCall K tb a u
  have hH : ∀ p ∈ cs, H p.2 = some (.tbl #[]) := fun p hp => atCall_tb (List.mem_map.mpr ⟨p, hp, rfl⟩)
  have ok : HOk P w H st.heap := fun b o e => by
    rcases atCall_or (show atCall K tb a u b ≠ none by rw [show atCall K tb a u b = some o from e]; simp) with h | ⟨_, rfl, _, h⟩
    · have e' : some o = some (HO.tbl #[]) := e.symm.trans (atCall_tb h)
      cases e'
      exact tbO h
    · have e' : some o = some u := e.symm.trans h
      cases e'
      exact ⟨hscr, by rw [List.length_map]; exact hsz, vs, _, vals_ints hint, hscr⟩
  have seq : SqL K H a (ns.map V.int) := by
    cases hk : K.lookup a with
    | none => exact .inl (.inr ⟨scriptO vs, atCall_a aNo hk⟩)
    | some o =>
      have e := KX a o hk
      rw [hscr] at e
      cases e
      exact .inr ⟨_, vs.toArray, _, hk, rfl, rfl, rfl, by rw [List.size_toArray, hint.length]; exact hsz, by simpa using vals_ints hint⟩
  -- what is no list and no table is not tracked
  have free : ∀ {b : Addr} {o : Obj}, st.heap.get? b = some o → o.data ≠ .seq vs.toArray → o.data ≠ .fields #[] → H b = none := fun {b o} e h1 h2 => by
    cases q : H b with
    | none => rfl
    | some z =>
      rcases atCall_or (show atCall K tb a u b ≠ none by rw [show atCall K tb a u b = some z from q]; simp) with h | ⟨_, rfl, _, _⟩
      · rw [tbO h] at e
        cases e
        exact absurd rfl h2
      · rw [hscr] at e
        cases e
        exact absurd rfl h1
  have base_ns : ∀ {b : Addr} {m : Str → Option Value}, st.heap.Ns b m → (hidT st.heap H).Ns b m := fun ⟨o, es, ep, e, d, r⟩ => ⟨o, es, ep, hidT_get e (free e (by rw [d]; exact fun z => nomatch z) (by rw [d]; exact fun z => nomatch z)), d, r⟩
  have base_K : K.In (hidT st.heap H) := fun b o e => hidT_get (KX b o e) (by
    cases q : H b with
    | none => rfl
    | some z =>
      exfalso
      rcases atCall_or (show atCall K tb a u b ≠ none by rw [show atCall K tb a u b = some z from q]; simp) with h | ⟨_, rfl, hk, _⟩
      · obtain ⟨p, hp, rfl⟩ := mem h
        rw [(tabs p hp).2.1] at e
        cases e
      · rw [hk] at e
        cases e)
  have base_T : ∀ p ∈ cs, LamX.TabB (hidT st.heap H) mg p.1 p.2 := fun p hp => by
    obtain ⟨t1, t2, o, us, file, tf, fl, tg, inF, tx, tt, c1, c2, c3, c4, c5⟩ := tabs p hp
    have gNs : ∀ m, st.heap.Ns mainGlobals m → ∀ o, st.heap.get? mainGlobals = some o → ∃ es ep, o.data = .dict es ep := fun m ⟨o', es, ep, e, d, _⟩ o e' => by
      rw [e] at e'
      cases e'
      exact ⟨es, ep, d⟩
    refine ⟨⟨o, us, file, tf, fl, tg, inF, tx, tt, hidT_get c1 (free c1 (by rw [c3]; exact fun z => nomatch z) (by rw [c3]; intro z; cases z; simp at c4)), c2, c3, c4, c5⟩, ?_, fun z => ?_⟩
    · obtain ⟨m, om, m1, m2, m3, m4, m5, m6⟩ := hmod
      refine ⟨m, om, m1, m2, fun z => ?_, fun z => ?_, hidT_get m3 (free m3 (by rw [m6]; exact fun z => nomatch z) (by rw [m6]; exact fun z => nomatch z)), m4, m5, m6⟩
      · rw [z] at m3
        obtain ⟨es, ep, d⟩ := gNs _ hG _ m3
        rw [m6] at d
        cases d
      · rw [z, t1] at m3
        cases m3
        cases m6
    · obtain ⟨es, ep, d⟩ := gNs _ hG _ (z ▸ t1)
      cases d
  have hMod : L2.Mod K mg (hidT st.heap H) := by
    obtain ⟨mc, l1, l2⟩ := hNL
    exact ⟨base_K, base_ns hG, ⟨mb, base_ns hB, hBB⟩, mc, base_ns l1, l2⟩
  have e0 : Env0 P w K mg (hidT st.heap H) callerA [] st H := ⟨rfl, hMod, fun b o e => of_hidT e, Nat.le_of_eq (hidT_size _ _), trivial, (fun b z => absurd (show b ∈ ([] : List Addr) from z) (by simp)), ok, .of_eq hgen⟩
  refine codeAny_mono ((G _ base_K (base_ns hG) base_T).run callerA [] st H ⟨[.ref a], []⟩ [.ref a] [.ref a] _ _ room rfl e0 (bind st (.ref a)) (.cons rfl .nil) (pre H hH (fun b z e => ?_) seq)) fun r s' h => ?_
  · rcases atCall_or z with q | ⟨_, rfl, _, _⟩
    · rw [tbO q] at e; cases e
    · rw [hscr] at e; cases e
  cases r with
  | error e =>
    obtain ⟨_, _, _, _, _, _, _, _, _, _, _, _, z⟩ := (show L2.CX P w [] H st (fun _ _ _ => False) e s' from h)
    exact z.elim
  | ok fl =>
    cases fl <;> first | (exact False.elim h; done) | skip
    obtain ⟨v, H', os, bare, un, hok', rv, rfl⟩ := h
    cases rv
    have kept : ∀ b o, b ∉ tb → st.heap.get? b = some o → s'.heap.get? b = some o := fun b o nb e => by
      cases q : H b with
      | none => exact un.keep b o e q (fun z => absurd (show b ∈ ([] : List Addr) from z) (by simp)) (by simp)
      | some z =>
        rcases atCall_or (show atCall K tb a u b ≠ none by rw [show atCall K tb a u b = some z from q]; simp) with h | ⟨_, rfl, _, h⟩
        · exact absurd h nb
        · obtain ⟨g1, _⟩ := hok' _ _ (un.frzs _ _ _ h)
          rw [hscr] at e
          cases e
          exact g1
    have more : ∀ p ∈ cs, ∃ m : Array Value, s'.heap.get? p.2 = some { cls := .none, data := .fields m } := fun p hp => by
      obtain ⟨m, z⟩ := un.tbls p.2 #[] (hH p hp)
      exact ⟨_, hok' _ _ z⟩
    refine ⟨rfl, ⟨fun b o e => ?_, fun b o e => ?_⟩, os, bare⟩
    · by_cases hb : b ∈ tb
      · obtain ⟨p, hp, rfl⟩ := mem hb
        obtain ⟨m, hm⟩ := more p hp
        rw [(tabs p hp).1] at e
        cases e
        exact .inr (.inl ⟨((tabs p hp).2.2.tab (tabs p hp).1).isCodeTable, rfl, #[], m, rfl, by rw [Array.empty_append]; exact hm⟩)
      · exact .inl (kept b o hb e)
    · by_cases hb : b ∈ tb
      · obtain ⟨p, hp, rfl⟩ := mem hb
        obtain ⟨m, hm⟩ := more p hp
        exact ⟨_, hm⟩
      · exact ⟨o, kept b o hb e⟩
/-- what is to be known of the law's def -/
def LawG (l : PySem.W.OpenLaw) (w : World) (K : PySem.W.Frag) (k n : Nat) (x : Str) (mg : Str → Option Value) (fa : Addr) (h : Heap) : Prop :=
  ∃ (fd : FuncData) (cs : List (Addr × Addr)) (sp : Sp), (∀ p ∈ cs, h.get? p.2 = some tabO ∧ K.lookup p.2 = none ∧ PySem.W.CodeHd h p.1 p.2) ∧ (∀ (s : Shared) (u : Value), BindsTo s fd ⟨[u], []⟩ [(x, u)]) ∧
    (∀ (H : Hp) (a : Addr) (ns : List Int), ns.length ≤ n → (∀ p ∈ cs, H p.2 = some (.tbl #[])) → SqL K H a (ns.map V.int) → sp [.ref a] H (fun v _ => v = .bl true) fun _ _ _ => False) ∧
    ∀ base : Heap, K.In base → base.Ns mainGlobals mg → (∀ p ∈ cs, LamX.TabB base mg p.1 p.2) → FnG l.prog w K mg base k fa fd [x] sp
theorem walk_G {l : PySem.W.OpenLaw} {n k : Nat} {q : Program} {loose : List Str} {XP : (Str → Option Value) → Heap → Prop} {YP : World → Heap → Prop} {d : DefRec} {K : Params → PySem.W.Frag} {x : Str} (hn : l.most = some n) (hn2 : n ≤ sizeLine) (hdf : d.params.defaults = []) (hr : Room k callerA)
    (hY : ∀ (w : World) (h : Heap), YP w h → (K w.params).In h) (F : ∀ (w : World) (mg : Str → Option Value) (fa : Addr) (h : Heap), YP w h → (K w.params).In h → h.Ns mainGlobals mg → mg d.name = some (.ref fa) → LawG l w (K w.params) k n x mg fa h) :
    PySem.W.WalkO q loose XP YP l.row.toRowW d [] (fun f vs => PySem.call f vs) := by
  refine Att.attach_call hn hdf fun w s0 st mg mb fa o pm cd doc a vs ns G Y _ _ _ hmg hobj hints hlen hg => ?_
  have KX := hY w _ Y
  obtain ⟨fd, cs, sp, hT, hb, hsp, hF⟩ := F w mg fa _ Y KX G.T.g hmg
  exact law_callG KX G.T.g G.T.b G.T.builtins G.T.nolimit hg hT G.T.bmain hobj hints (Nat.le_trans hlen hn2) hr hF hb fun H hH _ hS => hsp H a ns hlen hH hS
end Dz

set_option Elab.async false
set_option linter.all false
set_option maxRecDepth 100000
set_option maxHeartbeats 4000000
/-! Dz, part 19: an own exception over ValueError whose __init__ says super().__init__(f); self.f = f. -/
namespace PySem
namespace Dzx
open PySem.W PySem.Calls PyProof.Rows PySem.HandSPX
def iArgs (f : Str) (p q : Pos) : Arguments := { posonlyargs := [], args := [{ arg := "self", annotation := none, pos := p }, { arg := f, annotation := none, pos := q }], vararg := none, kwonlyargs := [], kw_defaults := [], kwarg := none, defaults := [] }
def iBody (f : Str) (p0 p1 p2 p3 p4 p5 q1 q2 q3 q4 : Pos) : List Stmt := [.Expr (.Call (.Attribute (.Call (.Name "super" p0) [] [] p1) "__init__" p2) [.Name f p3] [] p4) p5, .Assign [.Attribute (.Name "self" q1) f q2] (.Name f q3) q4]
/-- the text of such an __init__ -/
structure InitTxt (f : Str) (args : Arguments) (body : List Stmt) (sc : Scope) : Prop where
  ar : ∃ p q, args = iArgs f p q
  bd : ∃ p0 p1 p2 p3 p4 p5 q1 q2 q3 q4, body = iBody f p0 p1 p2 p3 p4 p5 q1 q2 q3 q4 ∧ (p2.endLine == p4.line) = true
  su : sc.names.lookup ("super" : Str) = some .globalImplicit
  cl : sc.names.lookup ("__class__" : Str) = some .free
  se : sc.names.lookup ("self" : Str) = some .local
  fl : sc.names.lookup f = some .local
  kind : sc.kind = .function
  co : sc.isCoroutine = false
  gen : sc.isGenerator = false
  noc : ∀ x ∈ sc.names, x.2 ≠ .cell
  ne : ("self" == f) = false
  db : (f == ("__debug__" : Str)) = false
/-- what the written part says of the class at C, of its __init__ at fI -/
structure ExT (P : Program) (K : Frag) (mg : Str → Option Value) (nm : Str) (C fI : Addr) (f : Str) : Prop where
  gC : mg nm = some (.ref C)
  cls : ∃ nm q N bs bm sn sub ab col dd k0 k1 k2 k3 k5, K.lookup C = some (excClassObj nm q C N bs bm true sn sub ab col dd k0 k1 k2 k3 k5 "ValueError.__new__") ∧ refsVE bm = true
  sa : findIn K (.ref C) "__setattr__" = some (some (.builtin "object.__setattr__"))
  ga : findIn K (.ref C) "__getattribute__" = some (some (.builtin "BaseException.__getattribute__"))
  gg : findIn K (.ref C) "__getattr__" = some none
  noN : findIn K (.ref C) f = some none
  iC : findIn K (.ref C) "__init__" = some (some (.ref fI))
  tC : typeIn K (.ref fI) = some (.type "function")
  kC : keepIn K (.ref C) = true
  exC : subIn K (.ref C) (.type "BaseException") = some true
  veC : subIn K (.ref C) (.type "ValueError") = some true
  tyC : typeIn K (.ref C) = some (.type "type")
  hdC : hasDictIn K C = true
  sub : mroIn K C (.ref C) = some true
  along : ks_superIn K C C "__init__" = some (some (.builtin "ValueError.__init__"))
  opq : nsIn K cStatics "thirdparty.any" = some none
  noS : mg "super" = none
  top : (P.main.scope.names.lookup ("super" : Str)).isSome = false
  fn : ∃ (args : Arguments) (body : List Stmt) (sc : Scope) (qn : Str) (oc : Value) (od : Option Addr) (doc pm : Value) (an : Option Addr) (cda cc : Addr) (ct : Value) (osl : Array (Option Value)), InitTxt f args body sc ∧
    K.lookup fI = some ⟨oc, od, .func (ksFn "__init__" qn args body sc .none .none doc pm an (.ref cda) ct cc), osl⟩ ∧ codeIn K (.ref cda) qn = true ∧
    (∀ x v, bindArgs (ksFn "__init__" qn args body sc .none .none doc pm an (.ref cda) ct cc) ⟨[x, v], []⟩ = pure [(("self" : Str), x), (f, v)]) ∧
    (∃ ccl cdd vs ccs file tf, K.lookup cda = some ⟨ccl, cdd, .fields vs, ccs⟩ ∧ vs[2]? = some (.str file tf) ∧ ((P.main.file : Str) == file) = true) ∧ ∃ cl cld csl, K.lookup cc = some ⟨cl, cld, .cell (some (.ref C)), csl⟩
theorem one_ok (v : Value) : [v].length ≤ sizeLine := by
  rw [sizeLine_eq]
  exact (by decide : 1 ≤ 16777216)
/-- what __init__ leaves of a fresh exception at x -/
structure InitTo (h h' : Heap) (x C dx t1 : Addr) (f : Str) (v : Value) : Prop where
  keep : ∀ b o, b ≠ x → h.get? b = some o → h'.get? b = some o
  obj : h'.get? x = some { cls := .ref C, dict := some dx, data := .fields #[.ref t1, .none, .none, .none, .bool false, .none] }
  dbig : h.objs.size ≤ dx
  dne : dx ≠ x
  ns : h'.Ns1 dx (fun y => if y = f then some v else none)
/-- a made one -/
structure MadeTo (h h' : Heap) (e C d : Addr) (f : Str) (v : Value) : Prop where
  keep : ∀ b o, h.get? b = some o → h'.get? b = some o
  new : h.objs.size ≤ e
  obj : ∃ oe vs, h'.get? e = some oe ∧ oe.cls = .ref C ∧ oe.dict = some d ∧ oe.data = .fields vs ∧ vs[1]? = some .none
  dbig : h.objs.size ≤ d
  dne : d ≠ e
  ns : h'.Ns1 d (fun y => if y = f then some v else none)
section
variable {prog : Program} {w : World} {A : Around} {E : Value → Shared → Prop} {R : Result → Shared → Prop} {s : Shared} {K : Frag} {mg mb : Str → Option Value} {C fI : Addr} {nm f : Str}
theorem ld_env {M : Model} {env : Env} {m : Str → Option Value} {x : Str} {pos : Pos} {v : Value} {Q : Value → Shared → Prop} (hn : s.heap.Ns env.locals m) (hv : m x = some v) (h : Q v s) (hk : env.scope.kind = .function) (hl : env.kindOf x = some .local) (hd : (x == ("__debug__" : Str)) = false) :
    wpAny M A (eval (.Name x pos) env) Q E s := wpAny_Name (wpAny_loadName_local hk hl hn hv h) hd
theorem mc_eq {o : Expr} {m : Str} {ap cp : Pos} {x : Str} {px : Pos} {env : Env} (hl : (ap.endLine == cp.line) = true) : eval (.Call (.Attribute o m ap) [.Name x px] [] cp) env = (do
      let ov ← attributeBase o m env (eval o env)
      standAt ap.atName
      let (f, first) ← holding [ov] (getMethod ov m (L2.plainOf o env))
      callWith cp f first (backTo cp (starEach [.Name x px] env)) []) := by
  rw [arm_eval_Call]
  congr 1
  funext ov
  congr 1
  funext _
  exact L2.mcall_line rfl hl
theorem init_run (T : ExT prog K mg nm C fI f) {x t0 : Addr} {v : Value} (X : K.In s.heap) (hG : s.heap.Ns mainGlobals mg) (hB : s.heap.Ns builtinsNs mb) (hBB : ∀ x : Str, x ≠ "__name__" → mb x = bootBuiltins x) (hlim : s.heap.NoLimit) (hx : s.heap.get? x = some (excO C t0)) (hnx : K.lookup x = none) (hroom : A.depth < recursionLimit)
    (hq : ∀ h' tk dx t1, InitTo s.heap h' x C dx t1 f v → R (.ok (.ret .none)) { s with heap := h', toks := tk }) :
    codeAny (model prog w) A (.call (.ref fI) ⟨[.ref x, v], []⟩) R s := by
  obtain ⟨args, body, sc, qn, oc, od, doc, pm, an, cda, cc, ct, osl, IT, ho, hcd, hbind, ⟨ccl, cdd, vs, ccs, file, tf, hcode, hvs, hfile⟩, cl, cld, csl, hcell⟩ := T.fn
  obtain ⟨cnm, q, N, bs, bm, sn, sub, ab, col, dd, k0, k1, k2, k3, k5, hC, hbm⟩ := T.cls
  obtain ⟨a1, a2, rfl⟩ := IT.ar
  obtain ⟨p0, p1, p2, p3, p4, p5, q1, q2, q3, q4, rfl, hline⟩ := IT.bd
  have hcl : clsIn K C = some { name := cnm, bases := bs, mro := .ref C :: bm, ns := N, qualname := q, hasDict := true, slotNames := sn, subclasses := sub, abstract := ab, collection := col, hasDel := false } := by unfold clsIn; rw [hC] <;> rfl
  refine ks_codeAny_call_defAt (binds := [(("self" : Str), .ref x), (f, v)]) hroom (X _ _ ho) rfl hlim (codeRec_of X hcd) rfl (BindsTo.of_eq (hbind _ _)) IT.noc (fun y hy => ?_) (fun h₁ hn k => ?_) IT.co IT.gen IT.kind
  · rcases List.mem_cons.mp hy with rfl | hy
    · exact IT.se
    · rw [List.mem_singleton.mp hy]
      exact IT.fl
  have X₁ : K.In h₁ := X.keeps k
  have hx₁ := k _ _ hx
  have m1 : (List.lookup ("self" : Str) ([(("self" : Str), .ref x), (f, v)] : List (Str × Value)).reverse) = some (.ref x) := by
    show List.lookup ("self" : Str) [(f, v), (("self" : Str), Value.ref x)] = _
    have := IT.ne
    simp [List.lookup, this]
  have m2 : (List.lookup f ([(("self" : Str), .ref x), (f, v)] : List (Str × Value)).reverse) = some v := by
    show List.lookup f [(f, v), (("self" : Str), Value.ref x)] = _
    simp [List.lookup]
  have I : InstAt h₁ x (excO C t0) C none := ⟨hx₁, rfl, rfl, trivial⟩
  obtain ⟨hp, g, dr, tk, os⟩ := s
  have FB := PySem.F.excBase_ValueError
  -- super().__init__(f)
  refine ks_wpAt_execs_cons (ks_wpAt_Expr_any ?_ (by simp [interactive, callEnv, newEnv, IT.kind]) rfl)
  refine ks_wpAt_MethodCall (ks_wpAt_super_base IT.su IT.cl (by decide) rfl (X₁ _ _ ho) rfl (ar := { arg := "self", annotation := none, pos := a1 }) rfl rfl (X₁ _ _ hcode) rfl hvs hfile T.top ?_) (mc_eq hline)
  · refine ks_loadName_global IT.kind IT.su (loadGlobal_builtin (hG.keeps k) T.noS (hB.keeps k) ((hBB _ (by decide +kernel)).trans (by kernel_rfl)) ⟨rfl, ?_⟩)
    refine wpAny_loadName_free IT.kind IT.cl rfl ⟨_, X₁ _ _ hcell, rfl⟩ ?_
    refine wpAny_loadName_local IT.kind IT.se hn m1 ?_
    refine ks_wpAny_isType_cls (X₁ _ _ hC) rfl ⟨rfl, ?_⟩
    refine ks_wpAny_call_super (X₁ _ _ hC) rfl I.at_ I.cls (fun c e => by cases e) (looks_mroIn X₁ T.sub) (fun h₂ e2 k2 => ?_)
    have X₂ : K.In h₂ := X₁.keeps k2
    have I₂ : InstAt h₂ x (excO C t0) C none := ⟨k2 _ _ hx₁, rfl, rfl, trivial⟩
    have hal : alongIn K "__init__" ((({ name := cnm, bases := bs, mro := .ref C :: bm, ns := N, qualname := q, hasDict := true, slotNames := sn, subclasses := sub, abstract := ab, collection := col, hasDel := false } : ClassData).mro.dropWhile (· != .ref C)).drop 1) = some (some (.builtin "ValueError.__init__")) := by
      have := T.along
      unfold ks_superIn at this
      rw [hcl] at this
      exact this
    refine kxs_getMethod kxs_ValueError e2 (looks_opaque X₂ T.opq) (l₀ := .ref C :: bm) (fun A Q E s k q => wpAny_bind ((looks_clsIn X₂ hcl) A _ E s k (wpAny_pure q))) rfl X₂ hal (I₂.type.andThen (looks_subIn X₂ T.veC)) (ks_ne X₂ I₂ hcl) (by decide) ?_
    have hu : ((h₂.push (kxs_mw "ValueError.__init__" x)).get? h₂.objs.size) = some (kxs_mw "ValueError.__init__" x) := Heap.get?_push_at rfl rfl
    have k3 : ∀ b o, h₁.get? b = some o → (h₂.push (kxs_mw "ValueError.__init__" x)).get? b = some o := fun b o e => Heap.get?_push_of_some _ (k2 b o e)
    refine kxs_callWith (i := "ValueError.__init__") (x := x) rfl (evalArgs_plain ?_)
    refine Calls.spliced_cons (ld_env (s := ⟨_, g, dr, _, os⟩) (hn.keeps k3) m2 ?_ IT.kind IT.fl IT.db)
    refine Calls.spliced_nil ⟨hu, ?_⟩
    have he := k3 _ _ hx₁
    refine wpAny_call (codeAny_of_tree ?_)
    show wpAny _ _ (callAny (.ref h₂.objs.size) ⟨[v], []⟩) _ _ _
    simp only [callAny]
    refine wpAny_bind (wpAny_load hu ?_)
    simp only [kxs_mw, show (Value.type "method-wrapper" == Value.type "method" || Value.type "method-wrapper" == Value.type "builtin_function_or_method" || Value.type "method-wrapper" == Value.type "method-wrapper") = true by decide, if_true]
    refine KFB.if_so (by decide) ?_
    refine wpAny_bind (check_bound_init FB.toExcCallFacts (X₂.keeps (fun b o e => Heap.get?_push_of_some _ e) _ _ hC) he rfl ?_)
    refine wpAny_bind (wpAny_pure (wpAny_pure ?_))
    refine ⟨plainId_quiet FB.init.plain _, codeAny_builtin FB.initEntry ?_⟩
    refine exc_init_tree (cls := .ref C) (t0 := t0) (dv := none) (c2 := .none) (c3 := .none) (b4 := .bool false) he (one_ok v) fun h₃ k4 hx3 ht3 => ?_
    show wpAt _ _ _ (execs _ _) _ _ _
    have hlt : x < hp.objs.size := Heap.lt_size hx
    have hxL : hp.objs.size ≠ x := Nat.ne_of_gt hlt
    have X₃ : K.In h₃ := fun b o e => k4 b o (fun z => by rw [z, hnx] at e; cases e) (k3 b o (X₁ b o e))
    have hn3 : h₃.Ns hp.objs.size (fun y => List.lookup y ([(("self" : Str), Value.ref x), (f, v)] : List (Str × Value)).reverse) := by
      obtain ⟨o, es, ep, e, d, r⟩ := hn
      exact ⟨o, es, ep, k4 _ _ hxL (k3 _ _ e), d, r⟩
    refine wpAt_of_wpAny (wpAny_execs_cons (plainObj_wpAny_Assign_Attribute ?_))
    refine ld_env (s := ⟨h₃, g, dr, _, os⟩) hn3 m2 ?_ IT.kind IT.fl IT.db
    refine ld_env (s := ⟨h₃, g, dr, _, os⟩) hn3 m1 ?_ IT.kind IT.se (by decide)
    refine set_plain (s := ⟨h₃, g, dr, _, os⟩) X₃ (ox := excO C _) (od := none) ⟨hx3, rfl, rfl, trivial⟩ T.sa ?_
    refine exc_osa X₃ hx3 hcl (show refsVE (.ref C :: bm) = true from hbm) rfl T.noN (fun h₄ tk₄ dx k₅ dn dne hx₄ hn₄ => ?_)
    show wpAny _ _ (execs _ _) _ _ _
    have z3 : hp.objs.size < h₃.objs.size := by
      obtain ⟨o, es, ep, e, d, r⟩ := hn3
      exact Heap.lt_size e
    exact wpAny_execs_nil (hq h₄ tk₄ dx _ ⟨fun b o hb e => k₅ b o hb (k4 b o hb (k3 b o (k b o e))), hx₄, Nat.le_of_lt (Nat.lt_of_lt_of_le z3 dn), dne, hn₄⟩)
theorem made (T : ExT prog K mg nm C fI f) {v : Value} (X : K.In s.heap) (hG : s.heap.Ns mainGlobals mg) (hB : s.heap.Ns builtinsNs mb) (hBB : ∀ x : Str, x ≠ "__name__" → mb x = bootBuiltins x) (hlim : s.heap.NoLimit) (hroom : A.depth + 1 < recursionLimit)
    (hq : ∀ h' tk e d, MadeTo s.heap h' e C d f v → R (.ok (.ret (.ref e))) { s with heap := h', toks := tk }) :
    codeAny (model prog w) A (.call (.ref C) ⟨[v], []⟩) R s := by
  obtain ⟨cnm, q, N, bs, bm, sn, sub, ab, col, dd, k0, k1, k2, k3, k5, hC, hbm⟩ := T.cls
  obtain ⟨hp, g, dr, tk, os⟩ := s
  have k : ∀ b o, hp.get? b = some o → ((hp.push (kdv_tup [v])).push (excO C hp.objs.size)).get? b = some o := fun b o e => Heap.get?_push_of_some _ (Heap.get?_push_of_some _ e)
  have hget : ((hp.push (kdv_tup [v])).push (excO C hp.objs.size)).get? (hp.objs.size + 1) = some (excO C hp.objs.size) := by heap_get
  have hnx : K.lookup (hp.objs.size + 1) = none := by
    cases e : K.lookup (hp.objs.size + 1) with
    | none => rfl
    | some o =>
      have z : hp.get? (hp.objs.size + 1) = some o := X _ _ e
      exact absurd (Nat.lt_of_succ_lt (Heap.lt_size z)) (Nat.lt_irrefl _)
  refine call_own F.excBase_ValueError (fun y => refsVE_contains y bm hbm) (X _ _ hC) (looks_findIn X T.iC) (fun self => bind_fn X self T.tC) (one_ok v) ?_
  refine init_run (s := ⟨(hp.push (kdv_tup [v])).push (excO C hp.objs.size), g, dr, tk, os⟩) T (X.keeps k) (hG.keeps k) (hB.keeps k) hBB (hlim.keeps k) hget hnx (by show A.depth + 1 < recursionLimit; exact hroom) fun h' tk' dx t1 M => ?_
  have z : hp.objs.size + 1 + 1 ≤ dx := by
    have q := M.dbig
    simpa only [Heap.size_push] using q
  exact ⟨rfl, hq h' tk' (hp.objs.size + 1) dx ⟨fun b o e => M.keep b o (Nat.ne_of_lt (Nat.lt_succ_of_lt (Heap.lt_size e))) (k b o e), Nat.le_succ _, ⟨_, _, M.obj, rfl, rfl, rfl, rfl⟩, Nat.le_trans (Nat.le_trans (Nat.le_succ _) (Nat.le_succ _)) z, M.dne, M.ns⟩⟩
end
end Dzx
end PySem
namespace Dz
open PySem PySem.Spec PyProof.Rows L2
theorem relO_one {v : V} {u : Value} (r : L2.RelV v u) (n y : Str) : RelO (List.lookup y [(n, v)]) (if y = n then some u else none) := by
  by_cases h : y = n
  · subst h
    simp only [List.lookup, beq_self_eq_true, if_true]
    exact r
  · have hb : (y == n) = false := by simpa using h
    simp only [List.lookup, hb, if_neg h]
    trivial
theorem mkx_of {X : Cx} {C fI : Addr} {nm f : Str} {k : Nat} (T : PySem.Dzx.ExT X.prog X.K X.mg nm C fI f) (hr : Room k X.A) (hg : isG X.env.scope nm = true) (hdb : (nm == ("__debug__" : Str)) = false) : MkX X C f nm := by
  intro e p pos te hst he pins s σ H Q I h
  refine wpAny_Call_Name_kw (ld_glob I (isG_gl rfl hg) T.gC ?_ hdb)
  let W : List V → Hp → Prop := fun vs H1 => match vs with
    | [v] => ∀ dx, H1 dx = none → Q (.ref C) (some dx) (upd H1 dx (.xd [(f, v)]))
    | _ => False
  refine PySem.W.callWith_K (h₀ := X.base) I.ok.mod.kin T.kC (thn ((pa_cons he pa_nil (star1 hst)).run pos pins s σ H W I h) fun us s1 ⟨vs, H1, I1, r1, q1⟩ => ⟨I1.kIn, ?_⟩) (star1 hst) (by rfl)
  have q1 : W vs H1 := q1
  obtain ⟨v, rfl⟩ : ∃ v, vs = [v] := by
    match vs, q1 with
    | [v], _ => exact ⟨v, rfl⟩
    | [], z => exact z.elim
    | _ :: _ :: _, z => exact z.elim
  have q1 : ∀ dx, H1 dx = none → Q (.ref C) (some dx) (upd H1 dx (.xd [(f, v)])) := q1
  cases r1 with
  | cons rv rn =>
    rename_i u us
    cases rn
    have hlim := I1.nolimit
    obtain ⟨mb, hB, hBB⟩ := I1.mod.blt
    have hG := I1.mod.glob.keeps I1.bk
    have hB := hB.keeps I1.bk
    have hK := I1.kIn
    obtain ⟨hp, g, dr, tk, os⟩ := s1
    refine wpAny_call (PySem.Dzx.made (s := ⟨hp, g, dr, tk, os⟩) T hK hG hB hBB hlim (by have := hr.dp; show X.A.depth + 1 < _; omega) fun h' tk' e d M => ?_)
    show MkP X pins σ Q (.ref e) ⟨h', g, dr, tk', os⟩
    obtain ⟨oe, fv, hoe, hc, hd, hdat, h1⟩ := M.obj
    -- the heap but the exception
    obtain ⟨G', g1, g2⟩ := restrict h' fun b => decide (b ≠ e)
    have gk : ∀ b, b ≠ e → G'.get? b = h'.get? b := fun b hb => g1 b (decide_eq_true hb)
    have ge : G'.get? e = none := g2 e (by simp)
    have J : Inv X pins σ (upd H1 d (.xd [(f, v)])) ⟨G', g, dr, tk', os⟩ := I1.laid (t' := tk') (fun b o q => (gk b (Nat.ne_of_lt (Nat.lt_of_lt_of_le (Heap.lt_size q) M.new))).trans (M.keep b o q)) M.dbig
      ⟨_, M.ns.at (fun o q => (gk d M.dne).trans q), fun y => relO_one rv f y⟩
    refine ⟨e, oe, fv, ⟨G', g, dr, tk', os⟩, _, .ref C, some d, rfl, J, fun b o q => ?_, ge, hoe, ⟨hc, hd⟩, hdat, h1, ?_, rfl, I1.bare, raises_own T.exC T.tyC, q1 d (I1.hok.fresh M.dbig)⟩
    · by_cases hb : b = e
      · have q' : G'.get? b = some o := q
        rw [hb, ge] at q'
        cases q'
      · exact (gk b hb).symm.trans q
    · rw [upd_ne (Ne.symm M.dne)]
      exact I1.hok.fresh M.new
end Dz

set_option Elab.async false
set_option linter.all false
set_option maxRecDepth 100000
set_option maxHeartbeats 4000000
/-! Dz, part 20: try with several clauses, with a name or without. -/
namespace Dz
open PySem PySem.Spec PyProof.Rows L2
/-- the ends behind a clause's suite: its name is gone -/
def endsAs (Dn : Ends) : Option Nat → Ends
  | none => Dn
  | some i => { nx := fun σ H => Dn.nx (σ.set i none) H, rt := Dn.rt, bk := fun σ H => Dn.bk (σ.set i none) H, ct := fun σ H => Dn.ct (σ.set i none) H }
def inAs (σ : L2.St) (a : Addr) : Option Nat → L2.St
  | none => σ
  | some i => σ.set i (some (.ref a))
abbrev Clause := Value × Option Nat × (Addr → Value → Option Addr → TS)
/-- what the clauses wish of an exception -/
def wMix (K : PySem.W.Frag) (Wo : WX) (Dn : Ends) : List Clause → WX
  | [] => Wo
  | (c, o, ts) :: r => fun cls d σ H => ∃ b, PySem.W.exmOne K cls c = some b ∧ (b = true → ∀ a, H a = none → ts a cls d (endsAs Dn o) (inAs σ a o) H) ∧ (b = false → wMix K Wo Dn r cls d σ H)
inductive ClOk (X : Cx) : List ExceptHandler → List Clause → Prop
  | nil : ClOk X [] []
  | plain {x : Str} {c : Value} {ts : Addr → Value → Option Addr → TS} {st : Stmt} {ss : List Stmt} {np p : Pos} {hds : List ExceptHandler} {l : List Clause} (hc : Names X x c)
      (su : ∀ (a : Addr) (oe : Obj) (cls : Value) (d : Option Addr) (pn : List (Addr × Obj)), Zc cls d oe → (∃ vs, oe.data = .fields vs) → PSs (X.suite a ((a, oe) :: pn)) (st :: ss) (ts a cls d)) (r : ClOk X hds l) :
      ClOk X (.ExceptHandler (some (.Name x np)) none (st :: ss) p :: hds) ((c, none, ts) :: l)
  | named {x n : Str} {i : Nat} {c : Value} {ts : Addr → Value → Option Addr → TS} {st : Stmt} {ss : List Stmt} {np p : Pos} {hds : List ExceptHandler} {l : List Clause} (hc : Names X x c) (hi : X.N[i]? = some n) (hn : X.env.kindOf n = some .local)
      (su : ∀ (a : Addr) (oe : Obj) (cls : Value) (d : Option Addr) (pn : List (Addr × Obj)), Zc cls d oe → (∃ vs, oe.data = .fields vs) → PSs (X.suite a ((a, oe) :: pn)) (st :: ss) (ts a cls d)) (r : ClOk X hds l) :
      ClOk X (.ExceptHandler (some (.Name x np)) (some n) (st :: ss) p :: hds) ((c, some i, ts) :: l)
theorem ps_try_mix {X : Cx} {body : List Stmt} {hd : ExceptHandler} {hds : List ExceptHandler} {l : List Clause} {pos : Pos} {tb : WX → TS} {Wo : WX} (hst : X.stack = X.env :: X.outer) (hfr : X.env.frame = some X.env.locals) (nd : X.N.Nodup) (tk : Takes X Wo)
    (hb : ∀ (W : WX) (pn : List (Addr × Obj)) (xe : Value → Shared → Prop), Takes (X.tr pn xe) W → PassesOwn (model X.prog X.w) X.A X.env xe → PSs (X.tr pn xe) body (tb W)) (hh : ClOk X (hd :: hds) l) :
    PS X (.Try body (hd :: hds) [] [] pos) (fun Dn σ H => tb (wMix X.K Wo Dn l) Dn σ H) := by
  refine ⟨fun pins s σ H Dn I h => ?_⟩
  have ok := I.ok
  have frames : X.A.frames = some (X.env :: X.outer) := by rw [ok.frames, hst]
  let xe : Value → Shared → Prop := fun e s1 => wpAny (model X.prog X.w) X.A (noteFrame e X.env) (fun _ s2 => wpAny (model X.prog X.w) X.A (setFlight e none) (fun _ s3 => wpAny (model X.prog X.w) X.A (handleBy e X.env (hd :: hds)) (SP X pins Dn) X.xe s3) X.xe s2) X.xe s1
  have caught : Takes (X.tr (X.pn ++ pins) xe) (wMix X.K Wo Dn l) := by
    rintro u s' ⟨a, G, sI, pins', σ', H', cls, d, rfl, J', nb, up, sky, na, os, ag, w⟩
    have J : Inv X pins σ' H' sI := J'.ofTry ok
    show wpAny (model X.prog X.w) X.A (noteFrame (.ref a) X.env) _ _ _
    refine Sky.land Zc.steady frames hfr (show Sky G (X.env :: X.outer) a (Zc cls d) X.env.locals s'.heap by rw [← hst]; exact sky) fun g fl ug => ?_
    have Jg : Inv X pins σ' H' { s' with heap := g } := J.landed nb fl.1 (up.trans ug) os ag
    obtain ⟨o3, vs3, at3, z3, d3⟩ := fl.there
    have out : a ∉ frs (X.env :: X.outer) := fun hm => by
      obtain ⟨_, o', e', no⟩ := fl.2.2.1.mem hm
      rw [at3] at e'
      cases e'
      exact no _ d3
    have nL : a ≠ X.env.locals := fun z => out (List.mem_filterMap.mpr ⟨X.env, List.mem_cons_self, by rw [hfr, z]⟩)
    have nF : a ∉ X.fs := fun hm => by
      obtain ⟨e, he, q⟩ := List.mem_filterMap.mp hm
      exact out (List.mem_filterMap.mpr ⟨e, List.mem_cons_of_mem _ he, q⟩)
    have Sg := Jg.suite at3 d3 na nL nF
    -- the test of a clause
    have tests : ∀ {x : Str} {c : Value} {np : Pos} {Q : Value → Shared → Prop} {E : Value → Shared → Prop}, Names X x c → Q c { s' with heap := g } → wpAny (model X.prog X.w) (X.A.mark (some (.ref a))) (eval (.Name x np) X.env) Q E { s' with heap := g } := by
      rintro x c np Q E ⟨hg, hdb, hm | ⟨hm, hv, hnn⟩⟩ q
      · exact ld_glob (X := X.suite a ((a, o3) :: (X.pn ++ pins))) Sg hg hm q hdb
      · exact ld_blt (X := X.suite a ((a, o3) :: (X.pn ++ pins))) Sg hg hm hv q hnn hdb
    have LT : PySem.W.Looks (model X.prog X.w) g (typeOf (.ref a)) cls := fun A Q E s k q => wpAny_typeOf_ref (k _ _ at3) (by rw [z3.1]; exact q)
    -- the suite that is entered
    have enter : ∀ {ss : List Stmt} {ts : Addr → Value → Option Addr → TS} {D' : Ends} {σ1 : L2.St} {Q : Flow → Shared → Prop} {E : Value → Shared → Prop} (s1 : Shared) (o4 : Obj) , (∃ vs, o4.data = .fields vs) → Zc cls d o4 →
        (∀ (a : Addr) (oe : Obj) (cls : Value) (d : Option Addr) (pn : List (Addr × Obj)), Zc cls d oe → (∃ vs, oe.data = .fields vs) → PSs (X.suite a ((a, oe) :: pn)) ss (ts a cls d)) → Inv (X.suite a ((a, o4) :: (X.pn ++ pins))) [] σ1 H' s1 → ts a cls d D' σ1 H' →
        (∀ f s6, SP (X.suite a ((a, o4) :: (X.pn ++ pins))) [] D' f s6 → Q f s6) → wpAny (model X.prog X.w) (X.A.mark (some (.ref a))) (execs ss X.env) Q E s1 := fun s1 o4 hf hz su J1 ht hq =>
      wpAny_mono ((su a o4 cls d (X.pn ++ pins) hz hf).run [] s1 _ H' _ J1 ht) hq fun _ _ z => False.elim z
    have go : ∀ {hds : List ExceptHandler} {l : List Clause}, ClOk X hds l → wMix X.K Wo Dn l cls d σ' H' → wpAny (model X.prog X.w) X.A (handleBy (.ref a) X.env hds) (SP X pins Dn) X.xe { s' with heap := g } := by
      intro hds l hk
      induction hk with
      | nil =>
        intro w
        refine wpAny_handleBy_nil ?_
        obtain ⟨_, _, _, oe, vs, T, oT, ts', he, hz, hd, h1, hr⟩ := id fl
        unfold PySem.passOn
        refine wpAny_bind (wpAny_field he hd h1 ?_)
        rw [if_neg (show ¬ ((Value.ref T == Value.none) = true) from by simp)]
        have fin : wpAny (model X.prog X.w) X.A (setFlight (.ref a) X.env.frame) (fun _ s4 => wpAny (model X.prog X.w) X.A (throw (.ref a) : Sem Flow) (SP X pins Dn) X.xe s4) X.xe { s' with heap := g } := by
          rw [hfr]
          exact HandSPX.setFlight_upZ fl fun h4 hh4 up4 => wpAny_throw (tk _ _ ⟨a, G, sI, pins, σ', H', cls, d, rfl, J, nb, (up.trans ug).trans up4, .inr (.inr (by rw [hst]; exact hh4)), na, os, ag, w⟩)
        first
          | exact wpAny_bind (wpAny_pure (wpAny_bind fin))
          | exact wpAny_bind fin
      | @plain x c ts st ss np p hds2 l2 hc su r ih =>
        rintro ⟨b, hb1, yes, no⟩
        refine wpAny_handleBy_cons (codeAny_handlers_test (tests hc ((PySem.W.exm_one (M := model X.prog X.w) Jg.kIn LT hb1).here ?_))) (by intro q; cases q)
        cases b with
        | false => exact ih (no rfl)
        | true =>
          refine codeAny_handlers_suite (HandSPX.lands_againZ fl fun h4 fl4 up4 => ?_)
          obtain ⟨o4, vs4, e4, z4, d4⟩ := fl4.there
          have J4 : Inv X pins σ' H' { s' with heap := h4 } := J.landed nb fl4.1 ((up.trans ug).trans up4) os ag
          refine enter { s' with heap := h4 } o4 ⟨_, d4⟩ z4 su (J4.suite e4 d4 na nL nF) (yes rfl a na) fun f s6 hsp => ?_
          cases f with
          | ret u =>
            obtain ⟨v6, σ6, H6, S6, r6, q6⟩ := hsp
            exact ⟨_, _, _, S6.unsuite ok, r6, q6⟩
          | _ =>
            obtain ⟨σ6, H6, S6, q6⟩ := hsp
            exact ⟨_, _, S6.unsuite ok, q6⟩
      | @named x n i c ts st ss np p hds2 l2 hc hi hn su r ih =>
        rintro ⟨b, hb1, yes, no⟩
        refine wpAny_handleBy_cons (codeAny_handlers_test (tests hc ((PySem.W.exm_one (M := model X.prog X.w) Jg.kIn LT hb1).here ?_))) (by intro q; cases q)
        cases b with
        | false => exact ih (no rfl)
        | true =>
          refine codeAny_handlers_suite_as (HandSPX.lands_againZ fl fun h4 fl4 up4 => ?_)
          obtain ⟨o4, vs4, e4, z4, d4⟩ := fl4.there
          have J4 : Inv X pins σ' H' { s' with heap := h4 } := J.landed nb fl4.1 ((up.trans ug).trans up4) os ag
          refine store_ok (X := X.suite a ((a, o4) :: (X.pn ++ pins))) (v := .ref a) (J4.suite e4 d4 na nL nF) nd hi (.inl hn) rfl (fun s5 S5 => ?_) (.inr hn)
          refine enter s5 o4 ⟨_, d4⟩ z4 su S5 (yes rfl a na) fun f s6 hsp => ?_
          have gone : ∀ {σ6 : L2.St} {H6 : Hp} {Q : Shared → Prop}, Inv (X.suite a ((a, o4) :: (X.pn ++ pins))) [] σ6 H6 s6 → (∀ s7, Inv X pins (σ6.set i none) H6 s7 → Q s7) →
              wpAny (model X.prog X.w) X.A (do bindName X.env n .none; unbindBehindTheSuite X.env n p) (fun _ s7 => Q s7) X.xe s6 := fun S6 hq => gone_ok (S6.unsuite ok) nd hi hn hq
          cases f with
          | ret u =>
            obtain ⟨v6, σ6, H6, S6, r6, q6⟩ := hsp
            exact gone S6 fun s7 J7 => ⟨_, _, _, J7, r6, q6⟩
          | _ =>
            obtain ⟨σ6, H6, S6, q6⟩ := hsp
            exact gone S6 fun s7 J7 => ⟨_, _, J7, q6⟩
    exact go hh w
  refine wpAny_Try_except (wpAny_mono ((hb (wMix X.K Wo Dn l) (X.pn ++ pins) xe caught PassesOwn.looking).run [] s σ H Dn (I.toTry _) h) (fun f s1 hsp => ?_) (fun e s1 he => he))
  cases f with
  | next =>
    obtain ⟨σ', H', J', q⟩ := hsp
    exact wpAny_execs_nil ⟨σ', H', J'.ofTry ok, q⟩
  | ret u =>
    obtain ⟨v, σ', H', J', r, q⟩ := hsp
    exact ⟨v, σ', H', J'.ofTry ok, r, q⟩
  | _ =>
    obtain ⟨σ', H', J', q⟩ := hsp
    exact ⟨σ', H', J'.ofTry ok, q⟩
end Dz

set_option Elab.async false
set_option linter.all false
set_option maxRecDepth 100000
set_option maxHeartbeats 4000000
/-! Dz, part 21: f(lambda: e), f a def of the law's that tells how a call ends. -/
namespace Dz
open PySem PySem.Spec PyProof.Rows L2 LamX
section
variable {X : Cx} {pins : List (Addr × Obj)} {σ : L2.St} {H HZ : Hp} {s s1 : Shared}
/-- the lambda's function object -/
abbrev lamObj (X : Cx) (params : Arguments) (body : Expr) (scope : Scope) (pm : Value) (c : Addr) (ct : Value) : Obj := PySem.W.kla_obj "<lambda>" (X.env.qual ++ "<lambda>") params body scope (cloFrom X.env.cells scope.names []) pm c ct
/-- a lambda is made: as lam_make2, and nothing is forgotten -/
theorem lam_made {T : Tb} {c P : Addr} {params : Arguments} {body : Expr} {scope : Scope} {pos : Pos} {E : Value → Shared → Prop} {Q : Value → Shared → Prop} (I : Inv X pins σ H s) (B : TabB X.base X.mg c P) (code : X.env.code = .ref c) (mem : (P, X.env.qual ++ "<lambda>") ∈ T) (un : ∀ p ∈ T, p.1 = P → p.2 = X.env.qual ++ "<lambda>") (tabs : Tabs T H)
    (nd : defaultsOf params X.env = ([], [])) (free : ∀ y ∈ scope.names, y.2 = .free → ∃ c, X.env.cells.lookup y.1 = some c)
    (k : ∀ (f c' : Addr) (pm ct : Value) (H1 : Hp) (s' : Shared), Inv X pins σ H1 s' → ExtN H H1 → (∀ b, H b ≠ none → H1 b ≠ none) → Tabs T H1 → s'.heap.get? f = some (lamObj X params body scope pm c' ct) → H1 f = none → f ∉ frs X.stack → H1 c' = some (CodeO c' (X.env.qual ++ "<lambda>")) → Q (.ref f) s') :
    wpAny (model X.prog X.w) X.A (eval (.Lambda params body scope pos) X.env) Q E s := by
  obtain ⟨ps, hP, tri, among⟩ := tabs _ mem
  have bP : s.heap.BuiltinsAt X.mg P := B.bm.keeps I.bk
  have oP : s.heap.get? P = some { cls := .none, data := .fields ps } := I.hok P _ hP
  have nofr : ∀ f, s.heap.objs.size ≤ f → f ∉ frs X.stack := fun f hf z => (List.mem_cons.mp (I.stkSub _ z)).elim (fun e => absurd (Nat.lt_of_lt_of_le I.lt hf) (by rw [e]; exact Nat.lt_irrefl _)) (I.nofs hf)
  refine PySem.W.kla_eval nd ?_
  cases hc : codeAmong pos ps.toList with
  | some cv =>
    obtain ⟨c', rfl, hco⟩ := among pos cv hc
    refine PySem.W.kla_makeFunctionHit (mg := X.mg) (c := c) (P := P) (ps := ps) (closure_ok free) I.ok.glob (I.mod.glob.keeps I.bk) code (B.code.keeps I.bk) oP tri hc bP fun ct h' tk hx hsz => ?_
    exact k h'.objs.size c' _ ct H _ (I.kept fun b o e => Heap.get?_push_of_some _ (hx b o e)) (.refl H) (fun _ z => z) tabs (Heap.get?_push_size _ rfl) (I.hok.fresh hsz) (nofr _ hsz) hco
  | none =>
    refine PySem.W.kla_makeFunction (mg := X.mg) (c := c) (P := P) (ps := ps) (closure_ok free) I.ok.glob (I.mod.glob.keeps I.bk) code (B.code.keeps I.bk) oP tri hc B.gP bP fun c' ct h' tk hx hge hlt hrec htb => ?_
    obtain ⟨_, oc, vs, t, e2, hoc, hd, hv⟩ := hrec
    cases e2
    have hsz : s.heap.objs.size ≤ h'.objs.size := Nat.le_trans hge (Nat.le_of_lt hlt)
    have nC : H c' = none := I.hok.fresh hge
    let mr : Array Value := #[rawInt pos.line, rawInt pos.col, .ref c']
    have I1 := inv_table (t' := tk) (more := mr) (h' := h'.push (lamObj X params body scope ((X.mg "__name__").getD .none) c' ct)) I hP (fun b o hb e => Heap.get?_push_of_some _ (hx b o hb e)) (Heap.get?_push_of_some _ htb) hge ⟨oc, vs, t, Heap.get?_push_of_some _ hoc, hd, hv⟩
    have atP : ∀ b, b ≠ c' → b ≠ P → upd (upd H P (.tbl (ps ++ mr))) c' (CodeO c' (X.env.qual ++ "<lambda>")) b = H b := fun b h1 h2 => by rw [upd_ne h1, upd_ne h2]
    have ext : ExtN H (upd (upd H P (.tbl (ps ++ mr))) c' (CodeO c' (X.env.qual ++ "<lambda>"))) := fun b o e n => (atP b (ne_of_none e nC) fun z => n ps (Option.some.inj (e.symm.trans (by rw [z]; exact hP)))).trans e
    refine k h'.objs.size c' _ ct _ _ I1 ext (fun b z => ?_) (fun p hp => ?_) (Heap.get?_push_size _ rfl) ?_ (nofr _ hsz) upd_same
    · by_cases h1 : b = c'
      · rw [h1, upd_same]; simp
      · rw [upd_ne h1]
        by_cases h2 : b = P
        · rw [h2, upd_same]; simp
        · rw [upd_ne h2]; exact z
    · by_cases hb : p.1 = P
      · refine ⟨_, by rw [hb, upd_ne (ne_of_none hP nC), upd_same], by rw [Array.toList_append]; exact PySem.TriplesOk_snoc _ _ _ _ tri, fun p' cv hcv => ?_⟩
        rw [Array.toList_append] at hcv
        rw [un p hp hb]
        rcases among_app _ tri hcv with z | z
        · obtain ⟨c0, e1, e2⟩ := among p' cv z
          exact ⟨c0, e1, ext _ _ e2 codeO_ne⟩
        · exact ⟨c', z, upd_same⟩
      · obtain ⟨ps', a1, a2, a3⟩ := tabs p hp
        refine ⟨ps', (atP _ (ne_of_none a1 nC) hb).trans a1, a2, fun p' cv hcv => ?_⟩
        obtain ⟨c0, e1, e2⟩ := a3 p' cv hcv
        exact ⟨c0, e1, ext _ _ e2 codeO_ne⟩
    · rw [atP _ (Nat.ne_of_gt hlt) (Nat.ne_of_gt (Nat.lt_of_lt_of_le (Heap.lt_size oP) hsz))]
      exact I.hok.fresh hsz
/-- act(), in the def that got the lambda -/
theorem act_call {Ng : List Str} {qg : Str} {sg : Scope} {g f c' : Addr} {cdg pm ct : Value} {params : Arguments} {body : Expr} {scope : Scope} {k : Nat} {a : Str} {pn : List (Addr × Obj)} {xe : Value → Shared → Prop} {W : WX} {E : XK} {tb : TE} {p1 p2 : Pos} (I : Inv X pins σ H s) (L : LamS X.env.scope scope)
    (hf : s.heap.get? f = some (lamObj X params body scope pm c' ct)) (fn : H f = none) (fr : f ∉ frs X.stack) (bind : bindArgs (PySem.W.kla_fn "<lambda>" (X.env.qual ++ "<lambda>") params body scope (cloFrom X.env.cells scope.names []) pm (.ref c') ct) ⟨[], []⟩ = pure [])
    (tk : Takes ((cxOf C8.CX0 X.prog X.w X.K X.mg X.base Ng qg sg g cdg X.A X.stack s H C8.E0).tr pn xe) W) (hr : Room (k + 1) (X.A.deeper (envOfC qg sg s.heap.objs.size g cdg))) (hg : X.A.guards = some [])
    (hbody : ∀ (A : Around) (outer : List PySem.Env) (s : Shared) (H : Hp), A.guards = some [] → Room k (A.deeper (lamEnv X scope s.heap.objs.size f c')) → PE (lamCx X A outer s H E scope f c') body tb) (hN : Ng[0]? = some a) (hv : Vis sg a) (hd : (a == ("__debug__" : Str)) = false) (hcd : (a == ("__classdict__" : Str)) = false) :
    PE ((cxOf C8.CX0 X.prog X.w X.K X.mg X.base Ng qg sg g cdg X.A X.stack s H C8.E0).tr pn xe) (.Call (.Name a p1) [] [] p2) (fun σZ HZ Q => (∀ cls d H', E cls d H' → W cls d σZ H') ∧ σZ[0]? = some (some (.ref f)) ∧ HZ c' = some (CodeO c' (X.env.qual ++ "<lambda>")) ∧ tb σ HZ Q) := by
  refine ⟨fun pz sZ σZ HZ Q IZ ⟨hW, h1, h2, h3⟩ => ?_⟩
  refine wpAny_Call_Name_kw (thn ((pe_var (pos := p1) (i := 0) hN hv hd hcd).run pz sZ σZ HZ (fun v H1 => v = .ref f ∧ H1 = HZ) IZ ⟨.ref f, h1, rfl, rfl⟩) fun u s1 ⟨v, H1, I1, r1, ev, eH⟩ => ?_)
  subst ev eH
  cases r1
  have un : Un (frs X.stack) [] H H1 s.heap s1.heap := I1.base
  have of1 := un.keep f _ hf fn fr (by simp)
  refine PySem.W.callWith_F0 ⟨_, _, _, _, of1⟩ ?_
  obtain ⟨⟨oc, vs, t, hoc, hdc, hvc⟩, _, _⟩ := I1.hok c' _ h2
  have rc : codeAny (model X.prog X.w) (X.A.deeper (envOfC qg sg s.heap.objs.size g cdg)) (.call (.ref f) ⟨[], []⟩) (CR (L2.CX X.prog X.w) (envOfC qg sg s.heap.objs.size g cdg :: X.stack) X.prog X.w H1 s1 Q E) s1 := by
    refine PySem.W.kla_callFunE hr.depth of1 rfl L.co L.gen rfl ⟨c', oc, vs, t, rfl, hoc, hdc, hvc⟩ ?_
    rw [bind]
    refine wpAny_pure (wpAny_newFunctionEnv (fun y hy => (L.own y hy).2) (fun y hy => absurd hy (by simp)) (fun h₁ ns sb => ⟨I1.nolimit.fresh _ sb, ?_⟩) L.kind)
    have kp : ∀ b o, s1.heap.get? b = some o → h₁.get? b = some o := fun b o e => sb.extBut b o (Nat.ne_of_lt (Heap.lt_size e)) (Heap.get?_push_of_some _ e)
    have J : Inv (lamCx X (X.A.deeper (envOfC qg sg s.heap.objs.size g cdg)) (envOfC qg sg s.heap.objs.size g cdg :: X.stack) s1 H1 E scope f c') [] σ H1 { s1 with heap := h₁, toks := s1.toks + ([] : List (Str × Value)).length } := lam_start2 I L I1.env0 hr.hd un ns kp
    show codeAny _ _ (.expr body (lamEnv X scope s1.heap.objs.size f c')) _ _
    refine PySem.W.kla_codeExpr (wpAny_mono ((hbody (X.A.deeper (envOfC qg sg s.heap.objs.size g cdg)) _ s1 H1 hg (hr.deeper _)).run [] _ _ H1 Q J h3) (fun v s' ⟨w', H', J', rv, q⟩ => ?_) fun e s' hq => hq)
    exact ⟨w', H', J'.os, J'.bare, J'.base, J'.hok, rv, q⟩
  refine wpAny_call (codeAny_mono rc fun r s' hq => ?_)
  cases r with
  | error e =>
    refine passAt tk σZ pz H1 s1 e s' I1 ?_
    obtain ⟨a1, a2, a3, a4, a5, b1, b2, b3, b4, b5, b6, b7, b8⟩ := (show L2.CX X.prog X.w _ H1 s1 E e s' from hq)
    exact ⟨a1, a2, a3, a4, a5, b1, b2, b3, b4, b5, b6, b7, hW _ _ _ b8⟩
  | ok fl => cases fl <;> first | exact I1.after hq | exact False.elim hq
end
/-- a clause of a teller: except x (as n): return (t, n.f) / return (t, None) -/
structure CS where
  x : Str
  C : Addr
  nm : Option (Str × Nat × Str)
  t : Str
def caught (K : PySem.W.Frag) : List CS → Addr → Option CS
  | [], _ => none
  | c :: r, A => match PySem.W.exmOne K (.ref A) (.ref c.C) with
    | some true => some c
    | some false => caught K r A
    | none => none
inductive HdOk (mg : Str → Option Value) (sg : Scope) (Ng : List Str) : List ExceptHandler → List CS → Prop
  | nil : HdOk mg sg Ng [] []
  | plain {x t : Str} {C : Addr} {np p q1 q2 q3 q4 : Pos} {j1 j2 kt : Nat} {hds : List ExceptHandler} {l : List CS} (hg : isG sg x = true) (hd : (x == ("__debug__" : Str)) = false) (hm : mg x = some (.ref C)) (r : HdOk mg sg Ng hds l) :
      HdOk mg sg Ng (.ExceptHandler (some (.Name x np)) none [.Return (some (.Tuple [.Constant (.str t) j1 q1, .Constant .none j2 q2] kt q3)) q4] p :: hds) (⟨x, C, none, t⟩ :: l)
  | named {x n t f : Str} {C : Addr} {i : Nat} {np p q1 q2 q3 q4 pn : Pos} {j1 kt : Nat} {hds : List ExceptHandler} {l : List CS} (hg : isG sg x = true) (hd : (x == ("__debug__" : Str)) = false) (hm : mg x = some (.ref C)) (hi : Ng[i]? = some n) (hn : sg.names.lookup n = some .local) (hp : plainName n = true) (r : HdOk mg sg Ng hds l) :
      HdOk mg sg Ng (.ExceptHandler (some (.Name x np)) (some n) [.Return (some (.Tuple [.Constant (.str t) j1 q1, .Attribute (.Name n pn) f q2] kt q3)) q4] p :: hds) (⟨x, C, some (n, i, f), t⟩ :: l)
theorem two_ok {u v : V} : [u, v].length ≤ sizeLine := by
  rw [sizeLine_eq]
  exact (by decide : 2 ≤ 16777216)
def tPair (t : Str) (te : TE) : TS := tRet (tTup (tCons (tC (.str t)) (tCons te tNil)))
def clOf (K : PySem.W.Frag) (c : CS) : Clause := (.ref c.C, c.nm.map (·.2.1), fun a cls d => match c.nm with
  | none => tPair c.t (tC .non)
  | some (_, i, f) => fun Dn σ H => ∃ A, cls = .ref A ∧ XfC K A ∧ PySem.W.findIn K (.ref A) f = some none ∧ tPair c.t (tXf a cls d A f (tVar i)) Dn σ H)
theorem cl_ok {Y : Cx} : ∀ {hds : List ExceptHandler} {l : List CS}, HdOk Y.mg Y.env.scope Y.N hds l → ClOk Y hds (l.map (clOf Y.K))
  | _, _, .nil => .nil
  | _, _, .plain hg hd hm r => .plain ⟨isG_gl rfl hg, hd, .inl hm⟩ (fun a oe cls d pn hz hf => pss_one (ps_ret (pe_tup (pa_cons pe_str (pa_cons pe_non pa_nil))))) (cl_ok r)
  | _, _, .named hg hd hm hi hn hp r => .named ⟨isG_gl rfl hg, hd, .inl hm⟩ hi hn (fun a oe cls d pn hz hf => ⟨fun pins s σ H Dn I ⟨A, e1, e2, e3, e4⟩ =>
      (pss_one (ps_ret (pe_tup (pa_cons pe_str (pa_cons (pe_xf e2 e3 hz hf (pe_var hi (.inl hn) (plain_db hp).1 (plain_db hp).2)) pa_nil))))).run pins s σ H Dn I e4⟩) (cl_ok r)
section
variable {X : Cx} {B : Bs} {Γ : Sig}
/-- what a clause makes of an exception -/
theorem caught_ok {K : PySem.W.Frag} {Wo : WX} {Dn : Ends} {A dx : Addr} {f : Str} {v : V} {σ : L2.St} {H : Hp} (xf : XfC K A) (no : PySem.W.findIn K (.ref A) f = some none) (hd : H dx = some (.xd [(f, v)])) : ∀ {l : List CS} {c : CS}, caught K l A = some c →
    (∀ n i f', c.nm = some (n, i, f') → f' = f ∧ i < σ.length) → (∀ p, H p = none → Dn.rt (.ref p) (upd H p (.tup [.str c.t, if c.nm.isSome then v else .non]))) → wMix K Wo Dn (l.map (clOf K)) (.ref A) (some dx) σ H
  | [], c, e, _, _ => by cases e
  | c0 :: l, c, e, hn, h => by
    unfold caught at e
    show ∃ b, PySem.W.exmOne K (.ref A) (.ref c0.C) = some b ∧ _
    cases hb : PySem.W.exmOne K (.ref A) (.ref c0.C) with
    | none => rw [hb] at e; cases e
    | some b =>
      rw [hb] at e
      refine ⟨b, rfl, fun ht a _ => ?_, fun hf => ?_⟩
      · subst ht
        cases e
        cases hc : c0.nm with
        | none =>
          rw [hc] at h
          simp only [clOf, hc]
          exact ⟨two_ok, h⟩
        | some q =>
          obtain ⟨n, i, f'⟩ := q
          obtain ⟨rfl, hl⟩ := hn n i f' hc
          rw [hc] at h
          simp only [clOf, hc]
          refine ⟨A, rfl, xf, no, _, ?_, rfl, rfl, dx, _, v, rfl, hd, by simp [List.lookup], two_ok, h⟩
          show (σ.set i (some (V.ref a)))[i]? = _
          rw [List.getElem?_set_self hl]
      · subst hf
        exact caught_ok xf no hd e hn h
/-- a teller's meaning -/
structure TellOk (K : PySem.W.Frag) (ec : Nat → Option (Addr × Str)) (N : Nat) (l : List CS) (t : Str) (F : (D → D) × (Nat → D → D)) : Prop where
  told : ∀ d, F.1 d = .tup [.str t.cps.toList, d]
  exn : ∀ c A f, ec c = some (A, f) → XfC K A ∧ PySem.W.findIn K (.ref A) f = some none ∧ ∃ cs, caught K l A = some cs ∧ (∀ n i f', cs.nm = some (n, i, f') → f' = f ∧ i < N) ∧ ∀ d, F.2 c d = .tup [.str cs.t.cps.toList, if cs.nm.isSome then d else .non]
theorem heard_at {fl k kt j : Nat} {x a t : Str} {F : (D → D) × (Nat → D → D)} {g c P : Addr} {pg : Arguments} {bg : List Stmt} {sg : Scope} {dV kV doc pm cdv ct oc : Value} {an od : Option Addr} {osl : Array (Option Value)} {Ng : List Str} {hd : ExceptHandler} {hds : List ExceptHandler} {l : List CS} {q1 q2 q3 q4 q5 q6 : Pos}
    (hF : Γ.told k = some F) (gd : X.A.guards = some []) (room : Room (fl + 2) X.A) (hm : X.mg x = some (.ref g)) (hk : PySem.W.keepIn X.K (.ref g) = true) (lk : X.K.lookup g = some ⟨oc, od, .func (PySem.W.fnOf x x pg bg sg dV kV doc pm an cdv ct), osl⟩) (hcg : PySem.W.codeIn X.K cdv x = true)
    (hb : L2.Binds X.K (PySem.W.fnOf x x pg bg sg dV kV doc pm an cdv ct) [a] []) (Sg : FnScope Ng [a] sg) (hNg : Ng[0]? = some a) (hva : Vis sg a) (hpa : plainName a = true) (hbg : bg = [.Try [.Return (some (.Tuple [.Constant (.str t) j q1, .Call (.Name a q2) [] [] q3] kt q4)) q5] (hd :: hds) [] [] q6]) (hh : HdOk X.mg sg Ng (hd :: hds) l)
    (TO : TellOk X.K B.ec Ng.length l t F) (TB : TabB X.base X.mg c P) (code : X.env.code = .ref c) (mem : (P, X.env.qual ++ "<lambda>") ∈ B.T) (un : ∀ p ∈ B.T, p.1 = P → p.2 = X.env.qual ++ "<lambda>") (hdb : (x == ("__debug__" : Str)) = false) : HeardAt fl X B Γ k x := by
  intro as body scope lp p pos m ha L hgx hbody
  obtain rfl : as = ⟨[], [], none, [], [], none, []⟩ := by
    unfold lamArgs at ha
    split at ha
    · rfl
    · cases ha
  refine ⟨fun pins s σ H Q I h => ?_⟩
  refine wpAny_Call_Name_kw (ld_glob I (isG_gl rfl hgx) hm ?_ hdb)
  refine PySem.W.callWith_K (h₀ := X.base) I.ok.mod.kin hk ?_ (by rfl) (by rfl)
  show wpAny _ _ (spliced ((false, eval (.Lambda ⟨[], [], none, [], [], none, []⟩ body scope lp) X.env) :: backTo pos (starEach [] X.env))) _ _ s
  obtain ⟨A0, F0, env, w, r, e, ps⟩ := h
  refine Calls.spliced_cons (lam_made I TB code mem un w.tabs rfl (L.has I.ok) fun f c' pm ct H1 s' I1 eN dm T1 hf hfn hfr hco => ?_)
  refine Calls.spliced_nil ⟨I1.kIn, ?_⟩
  have w1 : Wf X.K B.T A0 B.P F0 H1 σ env := w.turn (fun b o q n => eN b o q n) dm T1
  have t1 : Tr (ow F0) H (ow F0) H1 := ⟨fun b o q _ n => eN b o q n, dm, fun b z => .inl z⟩
  obtain ⟨rm, em, er⟩ : ∃ rm, m env = some rm ∧ (match rm with | .ok d env' => some (Res.ok (F.1 d.fz) env') | .exn c d env' => some (.ok (F.2 c d) env')) = some r := by
    unfold heardF at e
    rw [hF] at e
    simp only at e
    cases q : m env with
    | none => rw [q] at e; cases e
    | some rm =>
      rw [q] at e
      refine ⟨rm, rfl, ?_⟩
      cases rm <;> exact e
  have rc : codeAny (model X.prog X.w) X.A (.call (.ref g) ⟨[.ref f], []⟩) (CR C8.CX0 X.stack X.prog X.w H1 s' Q C8.E0) s' := by
    refine run_ofS (N := Ng) (ps := [a]) (us := [.ref f]) (vs := [.ref f]) lk hcg Sg (k := fl + 1) room I1.env0 (hb s' [.ref f] I1.kIn rfl) (.cons rfl .nil) rfl fun hr' => ?_
    subst hbg
    let Z := (cxOf C8.CX0 X.prog X.w X.K X.mg X.base Ng x sg g cdv X.A X.stack s' H1 C8.E0).nox
    let tbd : WX → TS := fun W Dn σz Hz => ∃ E : XK, (∀ cls d H', E cls d H' → W cls d σz H') ∧ σz[0]? = some (some (.ref f)) ∧ Hz c' = some (CodeO c' (X.env.qual ++ "<lambda>")) ∧
      tO ⟨X.K, B.T, B.P, fun cls d _ H => E cls d H, B.ec⟩ m σ Hz (fun v H1 => [V.str t, v].length ≤ sizeLine ∧ ∀ p, H1 p = none → Dn.rt (.ref p) (upd H1 p (.tup [.str t, v])))
    have try_ : PS Z (.Try [.Return (some (.Tuple [.Constant (.str t) j q1, .Call (.Name a q2) [] [] q3] kt q4)) q5] (hd :: hds) [] [] q6) (fun Dn σ H => tbd (wMix X.K (fun _ _ _ _ => False) Dn (l.map (clOf X.K))) Dn σ H) := by
      refine ps_try_mix (X := Z) (tb := tbd) rfl rfl Sg.nd takes0 (fun W pn xe tk _ => ⟨fun pz sz σz Hz Dn Iz ⟨E, h1, h2, h3, h4⟩ => ?_⟩) (cl_ok (Y := Z) hh)
      have act := act_call (W := W) (pn := pn) (xe := xe) (E := E) (Ng := Ng) (qg := x) (sg := sg) (g := g) (cdg := cdv) (k := fl) (p1 := q2) (p2 := q3) I1 L hf hfn hfr (by rfl) tk hr' gd (fun A outer s H hg hr => hbody A outer s H E f c' hg hr) hNg hva (plain_db hpa).1 (plain_db hpa).2
      exact (pss_one (ps_ret (pos := q5) (pe_tup (x1 := kt) (pos := q4) (pa_cons (pe_str (x := t) (j := j) (pos := q1)) (pa_cons act pa_nil))))).run pz sz σz Hz Dn Iz ⟨h1, h2, h3, h4⟩
    refine ⟨_, (pss_one try_).nox, ?_⟩
    have pstr : ∀ {Av : As} {H : Hp} (t : Str), Pu X.K Av H (.str t) (.str t.cps.toList) := fun {Av H} t => by
      have := Pu.str (K := X.K) (Av := Av) (H := H) t.cps.toList
      rwa [arr_list] at this
    have hlen : (L2.start Ng [V.ref f]).length = Ng.length := by
      have := (List.getElem?_eq_some_iff.mp hNg).1
      unfold L2.start
      simp
      omega
    cases rm with
    | ok d env' =>
      cases er
      refine ⟨fun _ _ _ => False, fun _ _ _ z => z.elim, rfl, hco, A0, F0, env, w1, _, em, fun v H' F' S t2 w2 o nS => ⟨two_ok, fun p hp => ?_⟩⟩
      have t3 : Tr (ow F0) H (ow F') H' := t1.trans (t2.less fun _ => .inr)
      have ps : (Kd.own (cf X B)).post A0 F0 H σ Q (F.1 d.fz) env' := ps
      rw [TO.told] at ps
      exact own_tup (C := cf X B) ((Kd.own (cf X B)).trans t3 ps) w2.frozen (.cons (pstr t) (.cons (o.frozen (fun b z => z.imp .inl id) fun b hb z => z.elim (nS b hb) fun z => w2.out b z (.inr hb)) .nil)) hp
    | exn c d env' =>
      cases er
      have ps : (Kd.own (cf X B)).post A0 F0 H σ Q (F.2 c d) env' := ps
      refine ⟨fun cls dd H' => ∃ F', Tr (ow F0) H1 (ow F') H' ∧ Wf X.K B.T A0 B.P F' H' σ env' ∧ Exn (cf X B) (cup A0 (ow F')) H' c d cls dd, ?_, rfl, hco, A0, F0, env, w1, _, em, fun H' F' cls dd t2 w2 ex => ⟨F', t2, w2, ex⟩⟩
      rintro cls dd H' ⟨F', t2, w2, A, fl', dx, v, e1, rfl, rfl, e4, e5⟩
      obtain ⟨xf, no, cs, hc, hn, hF2⟩ := TO.exn c A fl' e1
      refine caught_ok xf no e4 hc (fun n i f' h => ⟨(hn n i f' h).1, by rw [hlen]; exact (hn n i f' h).2⟩) fun p hp => ?_
      have t3 : Tr (ow F0) H (ow F') H' := t1.trans t2
      rw [hF2] at ps
      refine own_tup (C := cf X B) ((Kd.own (cf X B)).trans t3 ps) w2 (.cons (pstr cs.t) (.cons ?_ .nil)) hp
      cases cs.nm with
      | none => exact .non
      | some q => exact e5
  refine wpAny_call (codeAny_mono rc fun r s2 hq => ?_)
  cases r with
  | error e => exact (show False from hq).elim
  | ok fl => cases fl <;> first | exact I1.after hq | exact False.elim hq
end
end Dz

set_option Elab.async false
set_option linter.all false
set_option maxRecDepth 100000
set_option maxHeartbeats 4000000
/-! Dz: the end with the tables of the defs' code objects; the chain of promises. -/
namespace Dz
open PySem PySem.Spec PyProof.Rows L2 LamX
theorem walk_G2 {l : PySem.W.OpenLaw} {n k : Nat} {q : Program} {loose : List Str} {XP : (Str → Option Value) → Heap → Prop} {YP : World → Heap → Prop} {d : DefRec} {K : Params → PySem.W.Frag} {x : Str} (hn : l.most = some n) (hn2 : n ≤ sizeLine) (hdf : d.params.defaults = []) (hr : Room k callerA)
    (hY : ∀ (w : World) (h : Heap), YP w h → (K w.params).In h)
    (F : ∀ (w : World) (mg : Str → Option Value) (fa : Addr) (h : Heap), YP w h → (K w.params).In h → h.Ns mainGlobals mg → mg d.name = some (.ref fa) →
      (∀ (nm : Str) (f : Addr), ((recsOf q).any fun e => e.name == nm) = true → mg nm = some (.ref f) → OwnTab (K w.params) f h) → LawG l w (K w.params) k n x mg fa h) :
    PySem.W.WalkO q loose XP YP l.row.toRowW d [] (fun f vs => PySem.call f vs) := by
  refine Att.attach_call hn hdf fun w s0 st mg mb fa o pm cd doc a vs ns G Y _ _ _ hmg hobj hints hlen hg => ?_
  have KX := hY w _ Y
  have own : ∀ (nm : Str) (f : Addr), ((recsOf q).any fun e => e.name == nm) = true → mg nm = some (.ref f) → OwnTab (K w.params) f st.heap := fun nm f hrec hm c P o1 fd1 e dd vs1 sl k1 k2 k3 k4 k5 => by
    obtain ⟨r, hmem, hn1⟩ := List.any_eq_true.mp hrec
    have hn2 : r.name = nm := beq_iff_eq.mp hn1
    obtain ⟨a', o', fd', c', P', h1, h2, h3, h4, h5, h6⟩ := G.T.tab r hmem
    rw [hn2, hm] at h1
    cases h1
    have g1 := KX _ _ k1
    rw [g1] at h2
    cases h2
    rw [k2] at h3
    cases h3
    rw [k3] at h4
    cases h4
    obtain ⟨⟨oc, vc, e1, _, e3, e4⟩, hP⟩ := h6
    have g2 := KX _ _ k4
    rw [g2] at e1
    cases e1
    cases e3
    rw [k5] at e4
    cases e4
    exact hP
  obtain ⟨fd, cs, sp, hT, hb, hsp, hF⟩ := F w mg fa _ Y KX G.T.g hmg own
  exact law_callG KX G.T.g G.T.b G.T.builtins G.T.nolimit hg hT G.T.bmain hobj hints (Nat.le_trans hlen hn2) hr hF hb fun H hH _ hS => hsp H a ns hlen hH hS
/-- what every def's text may lean on -/
structure Topp (xs : List Str) (P : Program) (w : World) (K : PySem.W.Frag) (mg : Str → Option Value) (base : Heap) (ec : Nat → Option (Addr × Str)) : Prop where
  blt : ∀ f, mg (biV f).1 = none
  rng : mg "range" = none
  enu : mg "enumerate" = none ∧ mg "zip" = none
  mkx : ∀ (X : Cx) (k : Nat), X.prog = P → X.w = w → X.K = K → X.mg = mg → X.base = base → X.calm = true → Room k X.A → ∀ c x, xs[c]? = some x → ∃ C f, ec c = some (C, f) ∧ (isG X.env.scope x = true → MkX X C f x)
/-- the defs up to here keep their promises -/
def FnsOk (fs : List Str) (P : Program) (w : World) (K : PySem.W.Frag) (mg : Str → Option Value) (base : Heap) (T : Tb) (ec : Nat → Option (Addr × Str)) (fl : Nat) (pre : List Fn) : Prop :=
  ∀ (f : Nat) (F : Fn), pre[f]? = some F → ∀ x, fs[f]? = some x → ∃ (a : Addr) (fd : FuncData) (ps : List Str), mg x = some (.ref a) ∧ PySem.W.keepIn K (.ref a) = true ∧ Binds K fd ps [] ∧ FnG P w K mg base fl a fd ps (spF (cf0 K T ec) F)
section
variable {fs xs ts : List Str} {P : Program} {w : World} {K : PySem.W.Frag} {mg : Str → Option Value} {base : Heap} {T : Tb} {ec : Nat → Option (Addr × Str)} {fl : Nat} {pre : List Fn}
theorem fns_nil : FnsOk fs P w K mg base T ec 0 [] := fun f F h => by simp at h
theorem fns_step {Γ : Sig} {x : Str} {st : Stmt} {f : Addr} {fd : FuncData} {N ps : List Str} {ss : Ss} {muts : List Bool} (h : FnsOk fs P w K mg base T ec fl pre) (Tp : Topp xs P w K mg base ec) (sub : ∀ k F, Γ.fn k = some F → pre[k]? = some F)
    (U : L2.Fun K x x st f fd) (b : Binds K fd ps []) (g : mg x = some (.ref f)) (S : FnScope N ps (defScope st)) (ht : trSs ⟨fs, xs, ts⟩ N (defScope st) (defBody st) = some ss) (hpin : ∀ k, Γ.pin k = muts.getD k false) (hml : muts.length = ps.length) (hh : Hrd ⟨fs, xs, ts⟩ Γ fl P w K mg base T ec f x) (hx : fs[pre.length]? = some x) :
    FnsOk fs P w K mg base T ec (fl + 3) (pre ++ [fnD Γ muts N.length ss]) := by
  have G := def_ok (Γ := Γ) (muts := muts) ⟨fun f F hf x hx => h f F (sub f F hf) x hx, Tp.blt, Tp.rng, Tp.enu, fun X a1 a2 a3 a4 a5 a6 a7 c x hc => Tp.mkx X _ a1 a2 a3 a4 a5 a6 a7 c x hc⟩ U S ht hpin hml hh
  intro k F hk y hy
  by_cases hlt : k < pre.length
  · rw [List.getElem?_append_left hlt] at hk
    obtain ⟨a, fd', ps', h1, h2, h3, h4⟩ := h k F hk y hy
    exact ⟨a, fd', ps', h1, h2, h3, h4.mono (Nat.le_add_right _ _)⟩
  · have e : k = pre.length := by
      have := (List.getElem?_eq_some_iff.mp hk).1
      simp at this
      omega
    subst e
    rw [List.getElem?_append_right (Nat.le_refl _), Nat.sub_self] at hk
    cases hk
    rw [hx] at hy
    cases hy
    exact ⟨f, fd, ps, g, U.kp, b, G⟩
end
/-- the script's list, at the call -/
theorem pus_ints {K : PySem.W.Frag} {Av : As} {H : Hp} : ∀ ns : List Int, Pus K Av H (ns.map V.int) (ns.map D.int)
  | [] => .nil
  | n :: ns => .cons (.int n) (pus_ints ns)
theorem wf_call {K : PySem.W.Frag} {T : Tb} {H : Hp} {a : Addr} {ns : List Int} (h : SqL K H a (ns.map V.int)) (ht : Tabs T H) : Wf K T (fun _ => False) (fun _ => none) (fun _ => []) H ([V.ref a].map some) ([D.lst (ns.map .int)].map some) := by
  have no : ∀ b, ¬ cup (fun _ => False) (ow fun _ => []) b := fun b z => z.elim id fun ⟨_, z⟩ => (by cases z)
  have at_ : AtL K (cup (fun _ => False) (ow fun _ => [])) H a (ns.map V.int) := by
    rcases h with h | h
    · exact .inl ⟨h, no a⟩
    · exact .inr fun H' => .inr h
  refine ⟨rfl, fun i d e => ?_, fun _ _ => rfl, fun i j b z => (by cases z), fun b ⟨_, z⟩ => (by cases z), fun b z => z.elim, ht, fun i p z => (by cases z)⟩
  cases i with
  | zero =>
    cases e
    exact ⟨_, rfl, .pu (.lst at_ (pus_ints ns))⟩
  | succ i => simp at e
theorem sp_call {C : Cf} {F : Fn} {H : Hp} {a : Addr} {ns : List Int} (h : SqL C.K H a (ns.map V.int)) (ht : Tabs C.T H) (hm : F.muts = [false]) (hr : ∃ outs, F.run [.lst (ns.map .int)] = some (.ret (.bl true) outs)) : spF C F [.ref a] H (fun v _ => v = .bl true) fun _ _ _ => False := by
  obtain ⟨outs, hr⟩ := hr
  refine ⟨fun _ => False, fun _ => none, fun _ => [], [.lst (ns.map .int)], wf_call h ht, by rw [hm]; rfl, fun k => ?_, _, hr, ?_⟩
  · rw [hm]
    cases k with
    | zero => rfl
    | succ k => simp
  · intro v H' F1 S t w o nS h0
    cases o with
    | pu h => cases h; rfl
end Dz

set_option Elab.async false
set_option linter.all false
set_option maxRecDepth 100000
/-! Dz, the plain part: rules by which a small text is walked. -/
namespace Dz
open PySem
section
variable {α β : Type} {Γ : Sig} {env : Env}
/-- m answers, Q of its value or X of its exception -/
def W (m : M α) (env : Env) (Q : α → Env → Prop) (X : Nat → D → Env → Prop) : Prop := match m env with
  | some (.ok a e) => Q a e
  | some (.exn c d e) => X c d e
  | none => False
variable {m : M α} {k : α → M β} {Q : α → Env → Prop} {Q2 : β → Env → Prop} {X : Nat → D → Env → Prop}
theorem W.imp {Q' : α → Env → Prop} {X' : Nat → D → Env → Prop} (h : W m env Q X) (hq : ∀ a e, Q a e → Q' a e) (hx : ∀ c d e, X c d e → X' c d e) : W m env Q' X' := by
  unfold W at h ⊢
  split at h
  · exact hq _ _ h
  · exact hx _ _ _ h
  · exact h.elim
theorem w_ret {a : α} (h : Q a env) : W (M.ret a) env Q X := h
theorem w_bind (h : W m env (fun a e => W (k a) e Q2 X) X) : W (M.bind m k) env Q2 X := by
  unfold W at h ⊢
  unfold M.bind
  cases q : m env with
  | none => rw [q] at h; exact h
  | some r =>
    rw [q] at h
    cases r <;> exact h
theorem w_opt {o : Option α} {a : α} (e : o = some a) (h : Q a env) : W (M.opt o) env Q X := by
  subst e
  exact h
/-! ### operands -/
def gtO : Opd → Env → Option D
  | .val d, _ => some d
  | .pl i, env => match env[i]? with
    | some (some d) => some d.fz
    | _ => none
theorem w_get {o : Opd} {d : D} {Q : D → Env → Prop} (e : gtO o env = some d) (h : Q d env) : W o.get env Q X := by
  cases o with
  | val d' => cases e; exact h
  | pl i =>
    simp only [gtO] at e
    unfold W Opd.get
    cases q : env[i]? with
    | none => rw [q] at e; cases e
    | some o =>
      rw [q] at e
      cases o with
      | none => cases e
      | some d' =>
        cases e
        simp only [q]
        exact h
/-- an expression's value; as an operand; as a test -/
def We (Γ : Sig) (e : E) (env : Env) (Q : D → Env → Prop) (X : Nat → D → Env → Prop) : Prop := W (ev Γ e).1 env Q X
def Wr (Γ : Sig) (e : E) (env : Env) (Q : Opd → Env → Prop) (X : Nat → D → Env → Prop) : Prop := W (rdF e (ev Γ e).1) env Q X
def Wt (Γ : Sig) (e : E) (env : Env) (Q : Bool → Env → Prop) (X : Nat → D → Env → Prop) : Prop := W (ev Γ e).2 env Q X
def Ws (Γ : Sig) (es : Es) (env : Env) (Q : List D → Env → Prop) (X : Nat → D → Env → Prop) : Prop := W (evs Γ es) env Q X
def WR (Γ : Sig) (es : Es) (env : Env) (Q : List Opd → Env → Prop) (X : Nat → D → Env → Prop) : Prop := W (evR Γ es) env Q X
def WA (Γ : Sig) (es : Es) (ms : List Bool) (env : Env) (Q : List Opd → Env → Prop) (X : Nat → D → Env → Prop) : Prop := W (evA Γ es ms) env Q X
def Wi (Γ : Sig) (i : It) (env : Env) (Q : List D → Env → Prop) (X : Nat → D → Env → Prop) : Prop := W (evI Γ i) env Q X
end
section
variable {Γ : Sig} {env : Env} {Q : D → Env → Prop} {Qo : Opd → Env → Prop} {Qb : Bool → Env → Prop} {Ql : List D → Env → Prop} {Qos : List Opd → Env → Prop} {X : Nat → D → Env → Prop} {a b c e : E} {es : Es}
theorem e_cst {d : D} (h : Q d env) : We Γ (.cst d) env Q X := by unfold We; rw [ev]; exact h
theorem e_var {i : Nat} {d : D} (e : env[i]? = some (some d)) (o : d.isOwn = false) (h : Q d env) : We Γ (.var i) env Q X := by
  unfold We W
  rw [ev]
  simp only [varF, e, o]
  exact h
theorem e_varO {i : Nat} {d : D} (e : env[i]? = some (some (.own d))) (p : Γ.pin i = false) (h : Q d (env.set i (some d))) : We Γ (.var i) env Q X := by
  unfold We W
  rw [ev]
  simp only [varF, e, D.isOwn, p, D.fz]
  exact h
theorem r_var {i : Nat} {d : D} (e : env[i]? = some (some d)) (h : Qo (.pl i) env) : Wr Γ (.var i) env Qo X := by
  unfold Wr W
  simp only [rdF, varR, e]
  exact h
theorem r_val (hv : ∀ m, rdF e m = frozen m) (h : We Γ e env (fun d e1 => Qo (.val d.fz) e1) X) : Wr Γ e env Qo X := by
  unfold Wr
  rw [hv]
  exact w_bind h
theorem w_two {ma mb : M Opd} {f : D → D → M D} (h : W ma env (fun x e1 => W mb e1 (fun y e2 => ∃ dx dy, gtO x e2 = some dx ∧ gtO y e2 = some dy ∧ W (f dx dy) e2 Q X) X) X) : W (two f ma mb) env Q X := by
  unfold two
  refine w_bind (h.imp (fun x e1 h => w_bind (h.imp (fun y e2 ⟨dx, dy, h1, h2, h3⟩ => w_bind (w_get h1 (w_bind (w_get h2 h3)))) fun _ _ _ z => z)) fun _ _ _ z => z)
theorem e_bin {o : Op2} (h : Wr Γ a env (fun x e1 => Wr Γ b e1 (fun y e2 => ∃ dx dy z, gtO x e2 = some dx ∧ gtO y e2 = some dy ∧ binD o dx dy = some z ∧ Q z e2) X) X) : We Γ (.bin o a b) env Q X := by
  unfold We
  rw [ev]
  exact w_two (W.imp h (fun x e1 h => W.imp h (fun y e2 ⟨dx, dy, z, h1, h2, h3, h4⟩ => ⟨dx, dy, h1, h2, w_opt h3 h4⟩) fun _ _ _ z => z) fun _ _ _ z => z)
theorem e_cmp {o : Cm} (h : Wr Γ a env (fun x e1 => Wr Γ b e1 (fun y e2 => ∃ dx dy z, gtO x e2 = some dx ∧ gtO y e2 = some dy ∧ cmpD o dx dy = some z ∧ Q (.bl z) e2) X) X) : We Γ (.cmp o a b) env Q X := by
  unfold We
  rw [ev]
  exact w_two (W.imp h (fun x e1 h => W.imp h (fun y e2 ⟨dx, dy, z, h1, h2, h3, h4⟩ => ⟨dx, dy, h1, h2, w_opt (a := .bl z) (by rw [h3]; rfl) h4⟩) fun _ _ _ z => z) fun _ _ _ z => z)
theorem e_idx (h : Wr Γ a env (fun x e1 => Wr Γ b e1 (fun y e2 => ∃ dx dy z, gtO x e2 = some dx ∧ gtO y e2 = some dy ∧ idxD dx dy = some z ∧ Q z e2) X) X) : We Γ (.idx a b) env Q X := by
  unfold We
  rw [ev]
  exact w_two (W.imp h (fun x e1 h => W.imp h (fun y e2 ⟨dx, dy, z, h1, h2, h3, h4⟩ => ⟨dx, dy, h1, h2, w_opt h3 h4⟩) fun _ _ _ z => z) fun _ _ _ z => z)
theorem t_val {m : M D} (hs : ev Γ e = asV m) (h : We Γ e env (fun d e1 => ∃ t, truth d.fz = some t ∧ Qb t e1) X) : Wt Γ e env Qb X := by
  unfold Wt
  rw [hs]
  unfold We at h
  rw [hs] at h
  exact w_bind (w_bind (W.imp h (fun d e1 ⟨t, h1, h2⟩ => w_ret (w_bind (w_get (o := .val d.fz) rfl (w_opt h1 h2)))) fun _ _ _ z => z))
theorem t_cmp {o : Cm} (h : We Γ (.cmp o a b) env (fun d e1 => ∃ t, d = .bl t ∧ Qb t e1) X) : Wt Γ (.cmp o a b) env Qb X := t_val (by rw [ev]) (W.imp h (fun d e1 ⟨t, h1, h2⟩ => ⟨t, by rw [h1]; rfl, h2⟩) fun _ _ _ z => z)
theorem t_var {i : Nat} {d : D} {t : Bool} (e : env[i]? = some (some d)) (ht : truth d.fz = some t) (h : Qb t env) : Wt Γ (.var i) env Qb X := by
  unfold Wt
  rw [ev]
  refine w_bind ?_
  unfold W varR
  rw [e]
  exact w_bind (w_get (by simp only [gtO, e]) (w_opt ht h))
theorem t_and (h : Wt Γ a env (fun k e1 => if k = true then Wt Γ b e1 Qb X else Qb false e1) X) : Wt Γ (.and_ a b) env Qb X := by
  unfold Wt
  rw [ev]
  refine w_bind (W.imp h (fun k e1 h => ?_) fun _ _ _ z => z)
  cases k <;> exact h
theorem t_or (h : Wt Γ a env (fun k e1 => if k = true then Qb true e1 else Wt Γ b e1 Qb X) X) : Wt Γ (.or_ a b) env Qb X := by
  unfold Wt
  rw [ev]
  refine w_bind (W.imp h (fun k e1 h => ?_) fun _ _ _ z => z)
  cases k <;> exact h
theorem t_not (h : Wt Γ a env (fun k e1 => Qb (!k) e1) X) : Wt Γ (.not_ a) env Qb X := by
  unfold Wt
  rw [ev]
  exact w_bind (W.imp h (fun k e1 h => w_ret h) fun _ _ _ z => z)
theorem e_and (h : We Γ a env (fun d e1 => ∃ k, d = .bl k ∧ if k = true then We Γ b e1 Q X else Q (.bl false) e1) X) : We Γ (.and_ a b) env Q X := by
  unfold We
  rw [ev]
  refine w_bind (W.imp h (fun d e1 h => ?_) fun _ _ _ z => z)
  obtain ⟨k, rfl, h⟩ := h
  cases k <;> exact h
theorem e_ite (h : Wt Γ c env (fun k e1 => if k = true then We Γ a e1 Q X else We Γ b e1 Q X) X) : We Γ (.ite c a b) env Q X := by
  unfold We
  rw [ev]
  refine w_bind (W.imp h (fun k e1 h => ?_) fun _ _ _ z => z)
  cases k <;> exact h
theorem e_neg (h : We Γ a env (fun d e1 => ∃ i, d = .int i ∧ Q (.int (-i)) e1) X) : We Γ (.neg a) env Q X := by
  unfold We
  rw [ev]
  refine w_bind (W.imp h (fun d e1 h => ?_) fun _ _ _ z => z)
  obtain ⟨i, rfl, h⟩ := h
  exact h
theorem s_nil (h : Ql [] env) : Ws Γ .nil env Ql X := by unfold Ws; rw [evs]; exact h
theorem s_cons (h : We Γ e env (fun d e1 => Ws Γ es e1 (fun ds e2 => Ql (d.fz :: ds) e2) X) X) : Ws Γ (.cons e es) env Ql X := by
  unfold Ws
  rw [evs]
  exact w_bind (W.imp h (fun d e1 h => w_bind (W.imp h (fun ds e2 h => w_ret h) fun _ _ _ z => z)) fun _ _ _ z => z)
theorem o_nil (h : Qos [] env) : WR Γ .nil env Qos X := by unfold WR; rw [evR]; exact h
theorem o_cons (h : Wr Γ e env (fun d e1 => WR Γ es e1 (fun ds e2 => Qos (d :: ds) e2) X) X) : WR Γ (.cons e es) env Qos X := by
  unfold WR
  rw [evR]
  exact w_bind (W.imp h (fun d e1 h => w_bind (W.imp h (fun ds e2 h => w_ret h) fun _ _ _ z => z)) fun _ _ _ z => z)
theorem a_nil (h : Qos [] env) : WA Γ .nil [] env Qos X := by unfold WA; rw [evA]; exact h
theorem a_val {ms : List Bool} (h : We Γ e env (fun d e1 => WA Γ es ms e1 (fun ds e2 => Qos (.val d.fz :: ds) e2) X) X) : WA Γ (.cons e es) (false :: ms) env Qos X := by
  unfold WA
  rw [evA]
  exact w_bind (W.imp h (fun d e1 h => w_bind (W.imp h (fun ds e2 h => w_ret h) fun _ _ _ z => z)) fun _ _ _ z => z)
theorem a_var {ms : List Bool} {i : Nat} {d : D} (e : env[i]? = some (some d)) (h : WA Γ es ms env (fun ds e2 => Qos (.pl i :: ds) e2) X) : WA Γ (.cons (.var i) es) (true :: ms) env Qos X := by
  unfold WA
  rw [evA]
  refine w_bind ?_
  unfold W varR
  rw [e]
  exact w_bind (W.imp h (fun ds e2 h => w_ret h) fun _ _ _ z => z)
theorem e_tup (h : Ws Γ es env (fun ds e1 => ds.length ≤ lim ∧ Q (.tup ds) e1) X) : We Γ (.tup es) env Q X := by
  unfold We
  rw [ev]
  refine w_bind (W.imp h (fun ds e1 ⟨h1, h2⟩ => ?_) fun _ _ _ z => z)
  rw [if_pos h1]
  exact h2
theorem e_lst (h : Ws Γ es env (fun ds e1 => ds.length ≤ lim ∧ Q (.own (.lst ds)) e1) X) : We Γ (.lst es) env Q X := by
  unfold We
  rw [ev]
  refine w_bind (W.imp h (fun ds e1 ⟨h1, h2⟩ => ?_) fun _ _ _ z => z)
  rw [if_pos h1]
  exact h2
def getsO : List Opd → Env → Option (List D)
  | [], _ => some []
  | o :: r, env => (gtO o env).bind fun d => (getsO r env).map (d :: ·)
theorem w_gets : ∀ {os : List Opd} {ds : List D} {Q : List D → Env → Prop}, getsO os env = some ds → Q ds env → W (gets os) env Q X
  | [], _, _, e, h => by cases e; exact h
  | o :: r, _, _, e, h => by
    obtain ⟨d, h1, e⟩ := Option.bind_eq_some_iff.mp e
    obtain ⟨ds, h2, rfl⟩ := Option.map_eq_some_iff.mp e
    exact w_bind (w_get h1 (w_bind (w_gets h2 h)))
theorem e_bi {f : Bi} (h : WR Γ es env (fun os e1 => ∃ ds z, getsO os e1 = some ds ∧ biD f ds = some z ∧ Q z e1) X) : We Γ (.bi f es) env Q X := by
  unfold We
  rw [ev]
  exact w_bind (W.imp h (fun os e1 ⟨ds, z, h1, h2, h3⟩ => w_bind (w_gets h1 (w_opt h2 h3))) fun _ _ _ z => z)
theorem e_meth {o : E} {f : Mt} (h : Wr Γ o env (fun x e1 => ∃ s, gtO x e1 = some (.str s) ∧ WR Γ es e1 (fun os e2 => ∃ ds z, getsO os e2 = some ds ∧ methD f (.str s) ds = some z ∧ Q z e2) X) X) : We Γ (.meth f o es) env Q X := by
  unfold We
  rw [ev]
  exact w_bind (W.imp h (fun x e1 ⟨s, h1, h2⟩ => w_bind (w_get h1 (w_bind (W.imp h2 (fun os e2 ⟨ds, z, h3, h4, h5⟩ => w_bind (w_gets h3 (w_opt h4 h5))) fun _ _ _ z => z)))) fun _ _ _ z => z)
/-- a part of a slice -/
def Wp (Γ : Sig) (e : E) (env : Env) (Q : Option Int → Env → Prop) (X : Nat → D → Env → Prop) : Prop := W (partF e (ev Γ e).1) env Q X
theorem p_abs {Q : Option Int → Env → Prop} (h : Q none env) : Wp Γ .abs env Q X := h
theorem p_val {Q : Option Int → Env → Prop} (hv : ∀ m, partF e m = M.bind m fun d => M.opt (part d)) (h : We Γ e env (fun d e1 => ∃ i, d = .int i ∧ Q (some i) e1) X) : Wp Γ e env Q X := by
  unfold Wp
  rw [hv]
  refine w_bind (W.imp h (fun d e1 h => ?_) fun _ _ _ z => z)
  obtain ⟨i, rfl, h⟩ := h
  exact h
theorem e_slc {lo hi : E} (h : Wr Γ a env (fun x e1 => Wp Γ lo e1 (fun l e2 => Wp Γ hi e2 (fun u e3 => ∃ dx z, gtO x e3 = some dx ∧ slcD dx l u = some z ∧ Q z e3) X) X) X) : We Γ (.slc a lo hi) env Q X := by
  unfold We
  rw [ev]
  exact w_bind (W.imp h (fun x e1 h => w_bind (W.imp h (fun l e2 h => w_bind (W.imp h (fun u e3 ⟨dx, z, h1, h2, h3⟩ => w_bind (w_get h1 (w_opt h2 h3))) fun _ _ _ z => z)) fun _ _ _ z => z)) fun _ _ _ z => z)
theorem e_rev (h : Wr Γ a env (fun x e1 => ∃ dx z, gtO x e1 = some dx ∧ revD dx = some z ∧ Q z e1) X) : We Γ (.rev a) env Q X := by
  unfold We
  rw [ev]
  exact w_bind (W.imp h (fun x e1 ⟨dx, z, h1, h2, h3⟩ => w_bind (w_get h1 (w_opt h2 h3))) fun _ _ _ z => z)
/-- a def's run -/
def Rn (F : Fn) (args : List D) (Q : D → List D → Prop) (X : Nat → D → List D → Prop) : Prop := match F.run args with
  | some (.ret d os) => Q d os
  | some (.exn c d os) => X c d os
  | none => False
theorem e_call {f : Nat} {F : Fn} {ms : List Bool} (hf : Γ.fn f = some F) (hm : F.muts = ms) (h : WA Γ es ms env (fun os e1 => (places os).Nodup ∧ ∃ ds, hand os e1 = some ds ∧ Rn F ds (fun d outs => ∃ e2, back os outs e1 = some e2 ∧ Q d e2) (fun c d outs => ∃ e2, back os outs e1 = some e2 ∧ X c d e2)) X) : We Γ (.call f es) env Q X := by
  subst hm
  unfold We
  rw [ev]
  show W (callF Γ f (evA Γ es)) env Q X
  unfold callF
  rw [hf]
  refine w_bind (W.imp h (fun os e1 ⟨h1, ds, h2, h3⟩ => ?_) fun _ _ _ z => z)
  unfold W
  simp only [if_pos h1, h2]
  unfold Rn at h3
  split at h3
  · rename_i d outs hr
    obtain ⟨e2, h4, h5⟩ := h3
    (try rw [hr])
    simp only [h4, Option.map_some]
    exact h5
  · rename_i c d outs hr
    obtain ⟨e2, h4, h5⟩ := h3
    (try rw [hr])
    simp only [h4, Option.map_some]
    exact h5
  · exact h3.elim
theorem e_heard {f : Nat} {F : (D → D) × (Nat → D → D)} (hf : Γ.told f = some F) (h : We Γ e env (fun d e1 => Q (F.1 d.fz) e1) (fun c d e1 => Q (F.2 c d) e1)) : We Γ (.heard f e) env Q X := by
  unfold We
  rw [ev]
  show W (heardF Γ f (ev Γ e).1) env Q X
  unfold We W at h
  unfold heardF W
  rw [hf]
  simp only
  cases q : (ev Γ e).1 env with
  | none => rw [q] at h; exact h
  | some r => rw [q] at h; cases r <;> exact h
end
section
variable {Γ : Sig} {env : Env} {Q : Out → Prop} {e k a b c : E} {s : S} {ss xs ys : Ss} {es : Es}
/-- a statement's end -/
def Xo (o : Option Out) (Q : Out → Prop) : Prop := match o with
  | some o => Q o
  | none => False
def X1 (Γ : Sig) (s : S) (env : Env) (Q : Out → Prop) : Prop := Xo (ex Γ s env) Q
def Xs (Γ : Sig) (ss : Ss) (env : Env) (Q : Out → Prop) : Prop := Xo (exs Γ ss env) Q
/-- what is wanted behind statements: of an end in order, of a value given, of an exception -/
def Ot (N : Env → Prop) (R : D → Env → Prop) (X : Nat → D → Env → Prop) : Out → Prop
  | .nx e => N e
  | .ret d e => R d e
  | .exn c d e => X c d e
  | _ => False
theorem Xo.imp {o : Option Out} {Q' : Out → Prop} (h : Xo o Q) (hq : ∀ o, Q o → Q' o) : Xo o Q' := by
  cases o with
  | none => exact h
  | some o => exact hq o h
theorem x_nil (h : Q (.nx env)) : Xs Γ .nil env Q := by unfold Xs; rw [exs]; exact h
theorem x_cons (h : X1 Γ s env (fun o => match o with | .nx e1 => Xs Γ ss e1 Q | o => Q o)) : Xs Γ (.cons s ss) env Q := by
  unfold Xs
  rw [exs]
  unfold X1 at h
  cases q : ex Γ s env with
  | none => rw [q] at h; exact h
  | some o => rw [q] at h; cases o <;> exact h
theorem w_run {α : Type} {m : M α} {kk : α → Env → Option Out} (h : W m env (fun a e1 => Xo (kk a e1) Q) (fun c d e1 => Q (.exn c d e1))) : Xo (Dz.run m kk env) Q := by
  unfold W at h
  unfold Dz.run
  cases q : m env with
  | none => rw [q] at h; exact h
  | some r => rw [q] at h; cases r <;> exact h
theorem w_stV {i : Nat} {d : D} {Qu : Unit → Env → Prop} {X : Nat → D → Env → Prop} (p : Γ.pin i = false) (l : i < env.length) (h : Qu () (env.set i (some d))) : W (stV Γ i d) env Qu X := by
  unfold stV W
  rw [if_neg (by rw [p]; simp)]
  unfold setV
  rw [if_pos l]
  exact h
theorem s_asg {i : Nat} (h : We Γ e env (fun d e1 => Γ.pin i = false ∧ i < e1.length ∧ Q (.nx (e1.set i (some d)))) (fun c d e1 => Q (.exn c d e1))) : X1 Γ (.asg i e) env Q := by
  unfold X1
  rw [ex]
  exact w_run (w_bind (W.imp h (fun d e1 ⟨h1, h2, h3⟩ => w_stV h1 h2 h3) fun _ _ _ z => z))
theorem s_asgT {ts : Ts} (h : We Γ e env (fun d e1 => ∃ ds, d.fz = .tup ds ∧ W (asTs Γ.pin ts ds) e1 (fun _ e2 => Q (.nx e2)) (fun c d e2 => Q (.exn c d e2))) (fun c d e1 => Q (.exn c d e1))) : X1 Γ (.asgT ts e) env Q := by
  unfold X1
  rw [ex]
  refine w_run (w_bind (W.imp h (fun d e1 h => ?_) fun _ _ _ z => z))
  obtain ⟨ds, h1, h2⟩ := h
  rw [h1, asT]
  exact h2
theorem s_par {i j : Nat} (h : We Γ a env (fun x e1 => We Γ b e1 (fun y e2 => Γ.pin i = false ∧ i < e2.length ∧ Γ.pin j = false ∧ j < (e2.set i (some x)).length ∧ Q (.nx ((e2.set i (some x)).set j (some y)))) (fun c d e1 => Q (.exn c d e1))) (fun c d e1 => Q (.exn c d e1))) : X1 Γ (.par i j a b) env Q := by
  unfold X1
  rw [ex]
  unfold parF
  exact w_run (w_bind (W.imp h (fun x e1 h => w_bind (W.imp h (fun y e2 ⟨h1, h2, h3, h4, h5⟩ => w_bind (w_stV h1 h2 (w_stV h3 h4 h5))) fun _ _ _ z => z)) fun _ _ _ z => z))
theorem s_ret (hv : ∀ m, retF Γ e m = m) (h : We Γ e env (fun d e1 => Q (.ret d e1)) (fun c d e1 => Q (.exn c d e1))) : X1 Γ (.ret e) env Q := by
  unfold X1
  rw [ex, hv]
  exact w_run h
theorem s_retv {i : Nat} {d : D} (e : env[i]? = some (some d)) (o : d.isOwn = false) (h : Q (.ret d env)) : X1 Γ (.ret (.var i)) env Q := by
  unfold X1
  rw [ex]
  refine w_run ?_
  have hm : ∀ m, retF Γ (.var i) m env = some (.ok d env) := fun m => by
    unfold retF
    simp only [e, o, Bool.false_eq_true, if_false]
  unfold W
  rw [hm]
  exact h
theorem s_retO {i : Nat} {d : D} (e : env[i]? = some (some (.own d))) (p : Γ.pin i = false) (h : Q (.ret (.own d) (env.set i none))) : X1 Γ (.ret (.var i)) env Q := by
  unfold X1
  rw [ex]
  refine w_run ?_
  have hm : ∀ m, retF Γ (.var i) m env = some (.ok (.own d) (env.set i none)) := fun m => by
    unfold retF
    simp only [e, D.isOwn, p, Bool.false_eq_true, if_false, if_true]
  unfold W
  rw [hm]
  exact h
theorem s_expr (h : We Γ e env (fun d e1 => Q (.nx e1)) (fun c d e1 => Q (.exn c d e1))) : X1 Γ (.expr e) env Q := by
  unfold X1
  rw [ex]
  exact w_run h
theorem s_if (h : Wt Γ c env (fun k e1 => if k = true then Xs Γ xs e1 Q else Xs Γ ys e1 Q) (fun c d e1 => Q (.exn c d e1))) : X1 Γ (.if_ c xs ys) env Q := by
  unfold X1
  rw [ex]
  refine w_run (W.imp h (fun k e1 h => ?_) fun _ _ _ z => z)
  cases k <;> exact h
theorem s_raise {n : Nat} (h : We Γ e env (fun d e1 => Γ.exc n = true ∧ Q (.exn n d.fz e1)) (fun c d e1 => Q (.exn c d e1))) : X1 Γ (.raise_ n e) env Q := by
  unfold X1
  rw [ex]
  refine w_run (W.imp h (fun d e1 ⟨h1, h2⟩ => ?_) fun _ _ _ z => z)
  rw [if_pos h1]
  exact h2
theorem s_aug {i : Nat} {o : Op2} {d : D} (h0 : env[i]? = some (some d)) (h : We Γ e env (fun y e1 => ∃ z, augD o d.fz y = some z ∧ Γ.pin i = false ∧ i < e1.length ∧ Q (.nx (e1.set i (some z)))) (fun c d e1 => Q (.exn c d e1))) : X1 Γ (.aug i o e) env Q := by
  unfold X1
  rw [ex]
  unfold augV
  refine w_run (w_bind ?_)
  unfold W varR
  rw [h0]
  exact w_bind (w_get (d := d.fz) (by simp only [gtO, h0]) (w_bind (W.imp h (fun y e1 ⟨z, h1, h2, h3, h4⟩ => w_bind (w_opt h1 (w_stV h2 h3 h4))) fun _ _ _ z => z)))
theorem w_own {α : Type} {i : Nat} {ds : List D} {m : List D → M α} {Qa : α → Env → Prop} {X : Nat → D → Env → Prop} (h0 : env[i]? = some (some (.own (.lst ds)))) (h : W (m ds) env Qa X) : W (ownL i m) env Qa X := by
  unfold W ownL
  rw [h0]
  exact h
theorem s_setIx {i : Nat} (h : We Γ e env (fun x e1 => (∃ ds, e1[i]? = some (some (.own (.lst ds)))) ∧ We Γ k e1 (fun y e2 => ∃ ds n p, e2[i]? = some (some (.own (.lst ds))) ∧ y = .int n ∧ L2.ixN ds.length n = some p ∧ Q (.nx (e2.set i (some (.own (.lst (ds.set p x.fz))))))) (fun c d e1 => Q (.exn c d e1))) (fun c d e1 => Q (.exn c d e1))) : X1 Γ (.setIx i k e) env Q := by
  unfold X1
  rw [ex]
  unfold setIxF
  refine w_run (w_bind (W.imp h (fun x e1 h => ?_) fun _ _ _ z => z))
  obtain ⟨⟨ds, h1⟩, h2⟩ := h
  refine w_own h1 (w_bind (W.imp h2 (fun y e2 h => ?_) fun _ _ _ z => z))
  obtain ⟨ds2, n, p, h3, rfl, h4, h5⟩ := h
  unfold W setAt
  simp only [h3, h4]
  exact h5
theorem s_augIx {i : Nat} {o : Op2} {ds0 : List D} (h0 : env[i]? = some (some (.own (.lst ds0)))) (h : We Γ k env (fun y e1 => ∃ ds n p old, e1[i]? = some (some (.own (.lst ds))) ∧ y = .int n ∧ L2.ixN ds.length n = some p ∧ ds[p]? = some old ∧
      We Γ e e1 (fun x e2 => ∃ z ds2, augD o old x = some z ∧ e2[i]? = some (some (.own (.lst ds2))) ∧ ∃ p2, L2.ixN ds2.length n = some p2 ∧ Q (.nx (e2.set i (some (.own (.lst (ds2.set p2 z.fz))))))) (fun c d e1 => Q (.exn c d e1))) (fun c d e1 => Q (.exn c d e1))) : X1 Γ (.augIx i k o e) env Q := by
  unfold X1
  rw [ex]
  unfold augIxF
  refine w_run (w_own h0 (w_bind (W.imp h (fun y e1 h => ?_) fun _ _ _ z => z)))
  obtain ⟨ds, n, p, old, h1, rfl, h2, h3, h4⟩ := h
  refine w_own h1 (w_bind (w_opt (a := (old, p)) (by simp only [getAt, h2, Option.bind_some, h3, Option.map_some]) (w_bind (W.imp h4 (fun x e2 h => ?_) fun _ _ _ z => z))))
  obtain ⟨z, ds2, h5, h6, p2, h7, h8⟩ := h
  refine w_bind (w_opt h5 ?_)
  have hz : z.fz = z := by
    obtain ⟨a, b, f, rfl, rfl, _, rfl⟩ : ∃ a b f, old = .int a ∧ x = .int b ∧ opI o = some f ∧ z = .int (f a b) := by
      unfold augD at h5
      split at h5
      · cases h5; exact ⟨_, _, _, rfl, rfl, by assumption, rfl⟩
      · cases h5
    rfl
  rw [hz] at h8
  unfold W setAt
  simp only [h6, h7]
  exact h8
theorem s_mut {f : Mu} {i : Nat} {ds0 : List D} (h0 : env[i]? = some (some (.own (.lst ds0)))) (h : Ws Γ es env (fun ds e1 => ∃ c d c', e1[i]? = some (some (.own c)) ∧ mutD f c ds = some (d, c') ∧ Q (.nx (e1.set i (some (.own c'))))) (fun c d e1 => Q (.exn c d e1))) : X1 Γ (.mut f i es) env Q := by
  unfold X1
  rw [ex]
  unfold mutF
  refine w_run (w_own h0 (w_bind (W.imp h (fun ds e1 h => ?_) fun _ _ _ z => z)))
  obtain ⟨c, d, c', h1, h2, h3⟩ := h
  unfold W mutAt
  simp only [h1, h2, Option.map_some]
  exact h3
/-- a for: I by the turn -/
theorem s_for {t : T} {it : It} (h : Wi Γ it env (fun ds e1 => ∃ I : Nat → Env → Prop, I 0 e1 ∧ (∀ k d e2, ds[k]? = some d → I k e2 → W (asT Γ.pin t d) e2 (fun _ e3 => Xs Γ xs e3 (fun o => match o with | .nx e4 => I (k + 1) e4 | .ct e4 => I (k + 1) e4 | .brk e4 => Q (.nx e4) | o => Q o)) (fun _ _ _ => False)) ∧
      ∀ e2, I ds.length e2 → Q (.nx e2)) (fun c d e1 => Q (.exn c d e1))) : X1 Γ (.for_ t it xs) env Q := by
  unfold X1
  rw [ex]
  refine w_run (W.imp h (fun ds e1 h => ?_) fun _ _ _ z => z)
  obtain ⟨I, h0, hs, hd⟩ := h
  have go : ∀ (n k : Nat) (e : Env), k + n = ds.length → I k e → Xo (forGo (asT Γ.pin t) (exs Γ xs) (ds.drop k) e) Q := by
    intro n
    induction n with
    | zero =>
      intro k e hk hI
      have : k = ds.length := by omega
      subst this
      rw [List.drop_length]
      exact hd e hI
    | succ n ih =>
      intro k e hk hI
      have hlt : k < ds.length := by omega
      rw [List.drop_eq_getElem_cons hlt]
      have st := hs k ds[k] e (by simp [hlt]) hI
      unfold W at st
      unfold forGo
      cases q : asT Γ.pin t ds[k] e with
      | none => rw [q] at st; exact st.elim
      | some r =>
        rw [q] at st
        cases r with
        | exn c d e' => exact st.elim
        | ok u e3 =>
          simp only at st ⊢
          unfold Xs at st
          cases q2 : exs Γ xs e3 with
          | none => rw [q2] at st; exact st.elim
          | some o =>
            rw [q2] at st
            cases o with
            | nx e4 => exact ih (k + 1) e4 (by omega) st
            | ct e4 => exact ih (k + 1) e4 (by omega) st
            | brk e4 => exact st
            | ret d e4 => exact st
            | exn c d e4 => exact st
  have := go ds.length 0 e1 (by omega) h0
  rwa [List.drop_zero] at this
/-- a while: I by what is left of its fuel -/
theorem s_while (I : Nat → Env → Prop) (n : Nat) (hn : n < Γ.fuel) (h0 : I n env) (hs : ∀ m e, I m e → Wt Γ c e (fun k e1 => if k = true then ∃ m', m = m' + 1 ∧ Xs Γ xs e1 (fun o => match o with | .nx e2 => I m' e2 | .ct e2 => I m' e2 | .brk e2 => Q (.nx e2) | o => Q o) else Q (.nx e1)) (fun c d e1 => Q (.exn c d e1))) : X1 Γ (.while_ c xs) env Q := by
  unfold X1
  rw [ex]
  have go : ∀ (f m : Nat) (e : Env), m < f → I m e → Xo (whileGo (ev Γ c).2 (exs Γ xs) f e) Q := by
    intro f
    induction f with
    | zero => intro m e hm; exact absurd hm (Nat.not_lt_zero _)
    | succ f ih =>
      intro m e hm hI
      have st := hs m e hI
      unfold Wt W at st
      unfold whileGo
      cases q : (ev Γ c).2 e with
      | none => rw [q] at st; exact st.elim
      | some r =>
        rw [q] at st
        cases r with
        | exn c d e' => exact st
        | ok b e1 =>
          cases b with
          | false => exact st
          | true =>
            obtain ⟨m', rfl, st⟩ := st
            simp only
            unfold Xs at st
            cases q2 : exs Γ xs e1 with
            | none => rw [q2] at st; exact st.elim
            | some o =>
              rw [q2] at st
              cases o with
              | nx e4 => exact ih m' e4 (by omega) st
              | ct e4 => exact ih m' e4 (by omega) st
              | brk e4 => exact st
              | ret d e4 => exact st
              | exn c d e4 => exact st
  exact go _ n env hn h0
/-- a comprehension: I by the turn, what is gathered -/
theorem e_comp {t : T} {it : It} {cs : Es} {vs : List Nat} {Qd : D → Env → Prop} {X : Nat → D → Env → Prop} (h : Wi Γ it env (fun ds e1 => (vs.all (pureAt e1) && !vs.any Γ.pin && t.slots.all (vs.contains ·)) = true ∧ ∃ I : Nat → List D → Env → Prop, I 0 [] e1 ∧
      (∀ k d acc e2, ds[k]? = some d → I k acc e2 → W (turnF Γ.pin t (evC Γ cs) (ev Γ e).1 d) (wipeE e2 vs) (fun o e3 => match o with | some x => acc.length < lim ∧ I (k + 1) (acc ++ [x]) e3 | none => I (k + 1) acc e3) (fun _ _ _ => False)) ∧
      ∀ acc e2, I ds.length acc e2 → Qd (.own (.lst acc)) (restore e1 e2 vs)) X) : We Γ (.comp t it cs e vs) env Qd X := by
  unfold We
  rw [ev]
  show W (compF Γ t (evI Γ it) (evC Γ cs) (ev Γ e).1 vs) env Qd X
  unfold compF
  refine w_bind (W.imp h (fun ds e1 h => ?_) fun _ _ _ z => z)
  obtain ⟨hc, I, h0, hs, hd⟩ := h
  have go : ∀ (n k : Nat) (acc : List D) (e2 : Env), k + n = ds.length → I k acc e2 → ∃ acc' e3, compGo (turnF Γ.pin t (evC Γ cs) (ev Γ e).1) vs e1 (ds.drop k) acc e2 = some (.ok (.own (.lst acc')) (restore e1 e3 vs)) ∧ I ds.length acc' e3 := by
    intro n
    induction n with
    | zero =>
      intro k acc e2 hk hI
      have : k = ds.length := by omega
      subst this
      rw [List.drop_length]
      exact ⟨acc, e2, rfl, hI⟩
    | succ n ih =>
      intro k acc e2 hk hI
      have hlt : k < ds.length := by omega
      rw [List.drop_eq_getElem_cons hlt]
      have st := hs k ds[k] acc e2 (by simp [hlt]) hI
      unfold W at st
      unfold compGo
      cases q : turnF Γ.pin t (evC Γ cs) (ev Γ e).1 ds[k] (wipeE e2 vs) with
      | none => rw [q] at st; exact st.elim
      | some r =>
        rw [q] at st
        cases r with
        | exn c d e' => exact st.elim
        | ok o e3 =>
          cases o with
          | none => exact ih (k + 1) acc e3 (by omega) st
          | some x =>
            obtain ⟨hl, hI'⟩ := st
            simp only
            rw [if_pos hl]
            exact ih (k + 1) (acc ++ [x]) e3 (by omega) hI'
  obtain ⟨acc', e3, h1, h2⟩ := go ds.length 0 [] e1 (by omega) h0
  rw [List.drop_zero] at h1
  unfold W
  simp only [hc, if_true, h1]
  exact hd acc' e3 h2
def Wc (Γ : Sig) (cs : Es) (env : Env) (Q : Bool → Env → Prop) (X : Nat → D → Env → Prop) : Prop := W (evC Γ cs) env Q X
theorem c_nil {Qb : Bool → Env → Prop} {X : Nat → D → Env → Prop} (h : Qb true env) : Wc Γ .nil env Qb X := by unfold Wc; rw [evC]; exact h
theorem c_one {Qb : Bool → Env → Prop} {X : Nat → D → Env → Prop} (h : Wt Γ e env Qb X) : Wc Γ (.cons e .nil) env Qb X := by unfold Wc; rw [evC]; exact h
theorem c_turn {t : T} {cs : Es} {d : D} {pin : Nat → Bool} {Qo : Option D → Env → Prop} {X : Nat → D → Env → Prop} (h : W (asT pin t d) env (fun _ e1 => Wc Γ cs e1 (fun k e2 => if k = true then We Γ e e2 (fun x e3 => Qo (some x.fz) e3) X else Qo none e2) X) X) : W (turnF pin t (evC Γ cs) (ev Γ e).1 d) env Qo X := by
  unfold turnF
  refine w_bind (W.imp h (fun _ e1 h => w_bind (W.imp h (fun k e2 h => ?_) fun _ _ _ z => z)) fun _ _ _ z => z)
  cases k with
  | true => exact w_bind (W.imp h (fun x e3 h => w_ret h) fun _ _ _ z => z)
  | false => exact h
theorem i_e {Ql : List D → Env → Prop} {X : Nat → D → Env → Prop} (h : We Γ e env (fun d e1 => ∃ ds, itemsD d.fz = some ds ∧ Ql ds e1) X) : Wi Γ (.e e) env Ql X := by
  unfold Wi
  rw [evI]
  exact w_bind (W.imp h (fun d e1 ⟨ds, h1, h2⟩ => w_opt h1 h2) fun _ _ _ z => z)
theorem i_r1 {Ql : List D → Env → Prop} {X : Nat → D → Env → Prop} (h : We Γ e env (fun d e1 => ∃ n : Int, d = .int n ∧ (-(2 ^ 62) ≤ n ∧ n < 2 ^ 62) ∧ Ql ((List.range n.toNat).map fun (k : Nat) => .int k) e1) X) : Wi Γ (.range1 e) env Ql X := by
  unfold Wi
  rw [evI]
  refine w_bind (W.imp h (fun d e1 h => ?_) fun _ _ _ z => z)
  obtain ⟨n, rfl, hn, h⟩ := h
  simp only
  rw [if_pos hn]
  exact h
theorem i_r2 {Ql : List D → Env → Prop} {X : Nat → D → Env → Prop} (h : We Γ a env (fun x e1 => We Γ b e1 (fun y e2 => ∃ l u : Int, x = .int l ∧ y = .int u ∧ (-(2 ^ 62) ≤ l ∧ l < 2 ^ 62 ∧ -(2 ^ 62) ≤ u ∧ u < 2 ^ 62) ∧ Ql ((List.range (u - l).toNat).map fun (k : Nat) => .int (l + k)) e2) X) X) : Wi Γ (.range2 a b) env Ql X := by
  unfold Wi
  rw [evI]
  refine w_bind (W.imp h (fun x e1 h => w_bind (W.imp h (fun y e2 h => ?_) fun _ _ _ z => z)) fun _ _ _ z => z)
  obtain ⟨l, u, rfl, rfl, hn, h⟩ := h
  simp only
  rw [if_pos hn]
  exact h
theorem i_ez {Ql : List D → Env → Prop} {X : Nat → D → Env → Prop} (h : We Γ a env (fun x e1 => We Γ b e1 (fun y e2 => ∃ s t, x = .str s ∧ y = .str t ∧ (s.length ≤ lim ∧ t.length ≤ lim) ∧ Ql (ezipL 0 s t) e2) X) X) : Wi Γ (.ezip a b) env Ql X := by
  unfold Wi
  rw [evI]
  refine w_bind (W.imp h (fun x e1 h => w_bind (W.imp h (fun y e2 h => ?_) fun _ _ _ z => z)) fun _ _ _ z => z)
  obtain ⟨s, t, rfl, rfl, hn, h⟩ := h
  simp only
  rw [if_pos hn]
  exact h
/-- a def's run, by its body -/
theorem fn_run {muts : List Bool} {n : Nat} {args : List D} {R : D → List D → Prop} {X : Nat → D → List D → Prop} (ok : okArgs muts args = true) (h : Xs Γ ss (args.map some ++ List.replicate (n - args.length) none) (Ot (fun e => ∃ os, outsOf e muts args 0 = some os ∧ R .non os) (fun d e => ∃ os, outsOf e muts args 0 = some os ∧ R d os) (fun c d e => ∃ os, outsOf e muts args 0 = some os ∧ X c d os))) : Rn (fnD Γ muts n ss) args R X := by
  unfold Rn fnD
  simp only [ok, if_true]
  unfold body
  unfold Xs Xo at h
  cases q : exs Γ ss (args.map some ++ List.replicate (n - args.length) none) with
  | none => rw [q] at h; exact h.elim
  | some o =>
    rw [q] at h
    cases o with
    | nx e => obtain ⟨os, h1, h2⟩ := h; simp only [h1, Option.map_some]; exact h2
    | ret d e => obtain ⟨os, h1, h2⟩ := h; simp only [h1, Option.map_some]; exact h2
    | exn c d e => obtain ⟨os, h1, h2⟩ := h; simp only [h1, Option.map_some]; exact h2
    | brk e => exact h.elim
    | ct e => exact h.elim
end
end Dz

set_option Elab.async false
set_option linter.all false
set_option maxRecDepth 100000
/-! Dz, the plain part: data that compare and show themselves. -/
namespace Dz
open PySem
mutual
/-- no less than the length of what repr shows -/
def D.wt : D → Nat
  | .non => 4
  | .bl _ => 5
  | .int i => i.natAbs.log2 + 2
  | .str s => 10 * s.length + 2
  | .tup ds => D.wts ds + 3
  | .lst ds => D.wts ds + 3
  | .own _ => 0
def D.wts : List D → Nat
  | [] => 0
  | d :: ds => D.wt d + 2 + D.wts ds
end
mutual
def D.okv : D → Bool
  | .non => true
  | .bl _ => true
  | .int i => decide (i.natAbs.log2 < 1920)
  | .str s => s.all (· < 0x110000)
  | .tup ds => D.okvs ds
  | .lst ds => D.okvs ds
  | .own _ => false
def D.okvs : List D → Bool
  | [] => true
  | d :: ds => D.okv d && D.okvs ds
end
theorem shownAll_len : ∀ (xs : List PyData), (PyData.shownAll xs).length = xs.length
  | [] => rfl
  | x :: xs => by rw [PyData.shownAll, List.length_cons, List.length_cons, shownAll_len xs]
/-- what okv tells of a datum -/
structure Nice (d : PyData) (n : Nat) : Prop where
  lay : d.canLay0 = true
  dict : d.hasDict = false
  shw : d.showable = true
  len : d.shown.length ≤ n
  eqv : d.eqv d = true
structure NiceL (ds : List PyData) (n : Nat) : Prop where
  lay : PyData.canLayAll0 ds = true
  dict : PyData.hasDictAll ds = false
  shw : PyData.showableAll ds = true
  len : ((PyData.shownAll ds).map (·.length)).sum + 2 * ds.length ≤ n
  eqv : PyData.eqvAll ds ds = true
theorem pys_len : ∀ ds : List D, (D.pys ds).length = ds.length
  | [] => by rw [D.pys]; rfl
  | d :: ds => by rw [D.pys, List.length_cons, List.length_cons, pys_len ds]
mutual
theorem nice : ∀ {d : D}, d.okv = true → Nice d.py d.wt
  | .non, _ => by rw [D.py, D.wt]; exact ⟨by rw [PyData.canLay0], by rw [PyData.hasDict], by rw [PyData.showable], by rw [PyData.shown]; decide, by rw [PyData.eqv]⟩
  | .bl b, _ => by
    rw [D.py, D.wt]
    exact ⟨by rw [PyData.canLay0], by rw [PyData.hasDict], by rw [PyData.showable], by rw [PyData.shown]; cases b <;> decide, by rw [PyData.eqv]; simp⟩
  | .int i, h => by
    rw [D.okv, decide_eq_true_eq] at h
    rw [D.py, D.wt]
    refine ⟨by rw [PyData.canLay0], by rw [PyData.hasDict], by rw [PyData.showable]; exact decide_eq_true h, ?_, by rw [PyData.eqv]; simp⟩
    rw [PyData.shown]
    have := int_text_length_le (a := i) (k := i.natAbs.log2 + 1) (by omega) (by omega)
    show (Str.ofString (toString i)).length ≤ _
    rw [PyProof.Rows.ofString_len]
    omega
  | .str s, h => by
    rw [D.okv, List.all_eq_true] at h
    rw [D.py, D.wt]
    refine ⟨by rw [PyData.canLay0]; unfold PyData.strOk; simpa using h, by rw [PyData.hasDict], by rw [PyData.showable], ?_, by rw [PyData.eqv]; simp⟩
    rw [PyData.shown]
    have := StrLaws.reprText_len ⟨s.toArray⟩ (fun c hc => by
      have hc : c ∈ s := by simpa using hc
      have := h c hc
      simp only [decide_eq_true_eq] at this
      omega)
    simpa [Str.length] using this
  | .tup ds, h => by
    rw [D.okv] at h
    have n := nices h
    rw [D.py, D.wt]
    refine ⟨by rw [PyData.canLay0]; exact n.lay, by rw [PyData.hasDict]; exact n.dict, by rw [PyData.showable]; exact n.shw, ?_, by rw [PyData.eqv]; exact n.eqv⟩
    rw [PyData.shown]
    have := tupleText_len_le (PyData.shownAll (D.pys ds))
    have := n.len
    rw [shownAll_len] at *
    omega
  | .lst ds, h => by
    rw [D.okv] at h
    have n := nices h
    rw [D.py, D.wt]
    refine ⟨by rw [PyData.canLay0]; exact n.lay, by rw [PyData.hasDict]; exact n.dict, by rw [PyData.showable]; exact n.shw, ?_, by rw [PyData.eqv]; exact n.eqv⟩
    rw [PyData.shown]
    have := listText_len_le (PyData.shownAll (D.pys ds))
    have := n.len
    rw [shownAll_len] at *
    omega
  | .own d, h => by rw [D.okv] at h; cases h
theorem nices : ∀ {ds : List D}, D.okvs ds = true → NiceL (D.pys ds) (D.wts ds)
  | [], _ => by
    rw [D.pys, D.wts]
    exact ⟨by rw [PyData.canLayAll0], by rw [PyData.hasDictAll], by rw [PyData.showableAll], by rw [PyData.shownAll]; exact Nat.le_refl 0, by rw [PyData.eqvAll]⟩
  | d :: ds, h => by
    rw [D.okvs, Bool.and_eq_true] at h
    have n := nice h.1
    have m := nices h.2
    rw [D.pys, D.wts]
    refine ⟨by rw [PyData.canLayAll0, n.lay, m.lay]; rfl, by rw [PyData.hasDictAll, n.dict, m.dict]; rfl, by rw [PyData.showableAll, n.shw, m.shw]; rfl, ?_, by rw [PyData.eqvAll, n.eqv, m.eqv]; rfl⟩
    rw [PyData.shownAll, List.map_cons, List.sum_cons, List.length_cons]
    have := n.len
    have := m.len
    omega
end
/-- == and repr of such data -/
theorem eq_self {d : D} (h : d.okv = true) (hd : d.py.depth ≤ 64) : eqD d d = some true := by
  have n := nice h
  have sh : shapedD d = true := by
    unfold shapedD
    rw [n.lay, decide_eq_true hd]
    rfl
  cases d with
  | int i => exact congrArg some (decide_eq_true rfl)
  | str s => exact congrArg some (decide_eq_true rfl)
  | bl b => exact congrArg some (decide_eq_true rfl)
  | own d => rw [D.okv] at h; cases h
  | non =>
    show (if (shapedD D.non && shapedD D.non) = true then some (PyData.eqv D.non.py D.non.py) else none) = some true
    rw [sh, n.eqv]
    rfl
  | tup ds =>
    show (if (shapedD (D.tup ds) && shapedD (D.tup ds)) = true then some (PyData.eqv (D.tup ds).py (D.tup ds).py) else none) = some true
    rw [sh, n.eqv]
    rfl
  | lst ds =>
    show (if (shapedD (D.lst ds) && shapedD (D.lst ds)) = true then some (PyData.eqv (D.lst ds).py (D.lst ds).py) else none) = some true
    rw [sh, n.eqv]
    rfl
theorem show_ok {d : D} (h : d.okv = true) (hd : d.py.depth ≤ 64) (hw : d.wt ≤ lim) : showD d = some d.py.shown.cps.toList := by
  have n := nice h
  unfold showD
  rw [if_pos]
  rw [n.shw, n.dict, decide_eq_true hd, decide_eq_true (Nat.le_trans n.len hw)]
  rfl
theorem repr_ok {d : D} (h : d.okv = true) (hd : d.py.depth ≤ 64) (hw : d.wt ≤ lim) : biD .repr [d] = some (.str d.py.shown.cps.toList) := by
  show (showD d).map D.str = _
  rw [show_ok h hd hw]
  rfl
end Dz

set_option Elab.async false
set_option linter.all false
set_option maxRecDepth 100000
set_option maxHeartbeats 4000000
/-! printed by gen.py: the defs' texts in the small language, and that the program's are read so -/
namespace K60
open PySem L2 Dz
def top (i : Nat) : Stmt := PySem.Challenge.pw_leastlaid_k60_texts_changed.main.body.getD i (.Pass ⟨0, 0, 0, 0⟩)
def fs : List Str := ["changed", "changed_by", "common_begin", "change_between", "back_of", "_law_bag", "_law_take", "_law_one", "_law_alike", "_law_changed", "_law_change_between", "_law_drawn_change", "_law_rows_right", "_law_all_between", "law"]
def Zn : Tx := ⟨fs, ["NoChange"], []⟩
def Zt : Tx := ⟨fs, ["NoChange"], ["_law_heard"]⟩
def N_changed : List Str := ["text", "change", "begin", "end", "string"]
def s_changed : Ss :=
  (.cons (.asgT (.cons (.nm 2) (.cons (.nm 3) (.cons (.nm 4) .nil))) (.var 1))
  (.cons (.if_ (.cmp .gt (.var 3) (.bi .len (.cons (.var 0) .nil)))
  (.cons (.raise_ 0 (.var 1))
  .nil)
  .nil)
  (.cons (.ret (.bin .add (.bin .add (.slc (.var 0) .abs (.var 2)) (.var 4)) (.slc (.var 0) (.var 3) .abs)))
  .nil)))
theorem tr_changed : trSs Zn N_changed (defScope (top 4)) (defBody (top 4)) = some s_changed := by decide +kernel
theorem sc_changed : FnScope N_changed ["text", "change"] (defScope (top 4)) := ⟨rfl, rfl, rfl, by decide +kernel, rfl, by decide +kernel, by decide +kernel⟩
def N_changed_by : List Str := ["text", "changes", "change"]
def s_changed_by : Ss :=
  (.cons (.for_ (.nm 2) (.e (.var 1))
  (.cons (.asg 0 (.call 0 (.cons (.var 0) (.cons (.var 2) .nil))))
  .nil))
  (.cons (.ret (.var 0))
  .nil))
theorem tr_changed_by : trSs Zn N_changed_by (defScope (top 5)) (defBody (top 5)) = some s_changed_by := by decide +kernel
theorem sc_changed_by : FnScope N_changed_by ["text", "changes"] (defScope (top 5)) := ⟨rfl, rfl, rfl, by decide +kernel, rfl, by decide +kernel, by decide +kernel⟩
def N_common_begin : List Str := ["one", "other", "at", "mine", "its"]
def s_common_begin : Ss :=
  (.cons (.for_ (.tp (.cons (.nm 2) (.cons (.tp (.cons (.nm 3) (.cons (.nm 4) .nil))) .nil))) (.ezip (.var 0) (.var 1))
  (.cons (.if_ (.cmp .ne (.var 3) (.var 4))
  (.cons (.ret (.var 2))
  .nil)
  .nil)
  .nil))
  (.cons (.ret (.bi .min (.cons (.bi .len (.cons (.var 0) .nil)) (.cons (.bi .len (.cons (.var 1) .nil)) .nil))))
  .nil))
theorem tr_common_begin : trSs Zn N_common_begin (defScope (top 6)) (defBody (top 6)) = some s_common_begin := by decide +kernel
theorem sc_common_begin : FnScope N_common_begin ["one", "other"] (defScope (top 6)) := ⟨rfl, rfl, rfl, by decide +kernel, rfl, by decide +kernel, by decide +kernel⟩
def N_change_between : List Str := ["one", "other", "begin", "same"]
def s_change_between : Ss :=
  (.cons (.asg 2 (.call 2 (.cons (.var 0) (.cons (.var 1) .nil))))
  (.cons (.asg 3 (.call 2 (.cons (.rev (.slc (.var 0) (.var 2) .abs)) (.cons (.rev (.slc (.var 1) (.var 2) .abs)) .nil))))
  (.cons (.ret (.tup (.cons (.var 2) (.cons (.bin .sub (.bi .len (.cons (.var 0) .nil)) (.var 3)) (.cons (.slc (.var 1) (.var 2) (.bin .sub (.bi .len (.cons (.var 1) .nil)) (.var 3))) .nil)))))
  .nil)))
theorem tr_change_between : trSs Zn N_change_between (defScope (top 7)) (defBody (top 7)) = some s_change_between := by decide +kernel
theorem sc_change_between : FnScope N_change_between ["one", "other"] (defScope (top 7)) := ⟨rfl, rfl, rfl, by decide +kernel, rfl, by decide +kernel, by decide +kernel⟩
def N_back_of : List Str := ["text", "change", "begin", "end", "string"]
def s_back_of : Ss :=
  (.cons (.asgT (.cons (.nm 2) (.cons (.nm 3) (.cons (.nm 4) .nil))) (.var 1))
  (.cons (.ret (.tup (.cons (.var 2) (.cons (.bin .add (.var 2) (.bi .len (.cons (.var 4) .nil))) (.cons (.slc (.var 0) (.var 2) (.var 3)) .nil)))))
  .nil))
theorem tr_back_of : trSs Zn N_back_of (defScope (top 8)) (defBody (top 8)) = some s_back_of := by decide +kernel
theorem sc_back_of : FnScope N_back_of ["text", "change"] (defScope (top 8)) := ⟨rfl, rfl, rfl, by decide +kernel, rfl, by decide +kernel, by decide +kernel⟩
def N_law_bag : List Str := ["_law_script", "_law_cell"]
def s_law_bag : Ss :=
  (.cons (.ret (.lst (.cons (.cst (.int 0)) (.cons (.cst (.int 1234567891)) (.cons (.cst (.int 0)) (.cons (.comp (.nm 1) (.e (.slc (.var 0) .abs (.cst (.int 63)))) .nil (.bi .abs (.cons (.var 1) .nil)) [1]) (.cons (.cst (.int 0)) (.cons (.cst (.int 0)) .nil))))))))
  .nil)
theorem tr_law_bag : trSs Zn N_law_bag (defScope (top 10)) (defBody (top 10)) = some s_law_bag := by decide +kernel
theorem sc_law_bag : FnScope N_law_bag ["_law_script"] (defScope (top 10)) := ⟨rfl, rfl, rfl, by decide +kernel, rfl, by decide +kernel, by decide +kernel⟩
def N_law_take : List Str := ["_law_bag_here", "_law_many", "_law_cell", "_law_stirred", "_law_value", "_law_begin", "_law_second"]
def s_law_take : Ss :=
  (.cons (.if_ (.cmp .eq (.idx (.var 0) (.cst (.int 0))) (.cst (.int 0)))
  (.cons (.asg 2 (.idx (.bin .add (.slc (.idx (.var 0) (.cst (.int 3))) (.idx (.var 0) (.cst (.int 2))) .abs) (.lst (.cons (.cst (.int 0)) .nil))) (.cst (.int 0))))
  (.cons (.augIx 0 (.cst (.int 2)) .add (.cst (.int 1)))
  (.cons (.if_ (.cmp .ge (.var 2) (.bin .pow (.cst (.int 10)) (.cst (.int 18))))
  (.cons (.setIx 0 (.cst (.int 0)) (.var 2))
  .nil)
  .nil)
  (.cons (.asg 3 (.bin .add (.bin .add (.bin .mul (.idx (.var 0) (.cst (.int 1))) (.cst (.int 48271))) (.bin .mod (.bi .int (.cons (.var 2) .nil)) (.cst (.int 2147483647)))) (.bin .mul (.cst (.int 7919)) (.idx (.var 0) (.cst (.int 2))))))
  (.cons (.setIx 0 (.cst (.int 1)) (.bin .mod (.bi .int (.cons (.var 3) .nil)) (.cst (.int 2147483647))))
  .nil)))))
  .nil)
  (.cons (.if_ (.cmp .gt (.idx (.var 0) (.cst (.int 0))) (.cst (.int 0)))
  (.cons (.asg 4 (.bin .mod (.bi .int (.cons (.idx (.var 0) (.cst (.int 0))) .nil)) (.var 1)))
  (.cons (.setIx 0 (.cst (.int 0)) (.bin .fdiv (.bi .int (.cons (.idx (.var 0) (.cst (.int 0))) .nil)) (.var 1)))
  (.cons (.ret (.var 4))
  .nil)))
  .nil)
  (.cons (.asg 5 (.bin .mod (.bi .int (.cons (.bin .mul (.bin .add (.idx (.var 0) (.cst (.int 1))) (.cst (.int 1))) (.cst (.int 39373))) .nil)) (.cst (.int 1000000007))))
  (.cons (.asg 6 (.bin .mod (.bi .int (.cons (.bin .mul (.bin .mod (.bi .int (.cons (.bin .mul (.var 5) (.var 5)) .nil)) (.cst (.int 998244353))) (.cst (.int 30011))) .nil)) (.cst (.int 998244353))))
  (.cons (.ret (.bin .mod (.bi .int (.cons (.bin .fdiv (.var 6) (.cst (.int 7))) .nil)) (.var 1)))
  .nil)))))
theorem tr_law_take : trSs Zn N_law_take (defScope (top 11)) (defBody (top 11)) = some s_law_take := by decide +kernel
theorem sc_law_take : FnScope N_law_take ["_law_bag_here", "_law_many"] (defScope (top 11)) := ⟨rfl, rfl, rfl, by decide +kernel, rfl, by decide +kernel, by decide +kernel⟩
def N_law_one : List Str := ["_law_bag_here", "_law_things"]
def s_law_one : Ss :=
  (.cons (.ret (.idx (.var 1) (.call 6 (.cons (.var 0) (.cons (.bi .len (.cons (.var 1) .nil)) .nil)))))
  .nil)
theorem tr_law_one : trSs Zn N_law_one (defScope (top 12)) (defBody (top 12)) = some s_law_one := by decide +kernel
theorem sc_law_one : FnScope N_law_one ["_law_bag_here", "_law_things"] (defScope (top 12)) := ⟨rfl, rfl, rfl, by decide +kernel, rfl, by decide +kernel, by decide +kernel⟩
def N_law_alike : List Str := ["_law_found", "_law_due"]
def s_law_alike : Ss :=
  (.cons (.ret (.and_ (.cmp .eq (.var 0) (.var 1)) (.cmp .eq (.bi .repr (.cons (.var 0) .nil)) (.bi .repr (.cons (.var 1) .nil)))))
  .nil)
theorem tr_law_alike : trSs Zn N_law_alike (defScope (top 13)) (defBody (top 13)) = some s_law_alike := by decide +kernel
theorem sc_law_alike : FnScope N_law_alike ["_law_found", "_law_due"] (defScope (top 13)) := ⟨rfl, rfl, rfl, by decide +kernel, rfl, by decide +kernel, by decide +kernel⟩
def N_law_changed : List Str := ["_law_text", "_law_change"]
def s_law_changed : Ss :=
  (.cons (.ret (.bin .add (.bin .add (.slc (.var 0) .abs (.idx (.var 1) (.cst (.int 0)))) (.idx (.var 1) (.cst (.int 2)))) (.slc (.var 0) (.idx (.var 1) (.cst (.int 1))) .abs)))
  .nil)
theorem tr_law_changed : trSs Zn N_law_changed (defScope (top 14)) (defBody (top 14)) = some s_law_changed := by decide +kernel
theorem sc_law_changed : FnScope N_law_changed ["_law_text", "_law_change"] (defScope (top 14)) := ⟨rfl, rfl, rfl, by decide +kernel, rfl, by decide +kernel, by decide +kernel⟩
def N_law_change_between : List Str := ["_law_one_here", "_law_other", "_law_begin", "_law_end"]
def s_law_change_between : Ss :=
  (.cons (.asg 2 (.cst (.int 0)))
  (.cons (.while_ (.and_ (.cmp .lt (.var 2) (.bi .len (.cons (.var 0) .nil))) (.and_ (.cmp .lt (.var 2) (.bi .len (.cons (.var 1) .nil))) (.cmp .eq (.idx (.var 0) (.var 2)) (.idx (.var 1) (.var 2)))))
  (.cons (.aug 2 .add (.cst (.int 1)))
  .nil))
  (.cons (.asg 3 (.bi .len (.cons (.var 0) .nil)))
  (.cons (.while_ (.and_ (.cmp .gt (.var 3) (.var 2)) (.and_ (.cmp .gt (.bin .sub (.bi .len (.cons (.var 1) .nil)) (.bin .sub (.bi .len (.cons (.var 0) .nil)) (.var 3))) (.var 2)) (.cmp .eq (.idx (.var 0) (.bin .sub (.var 3) (.cst (.int 1)))) (.idx (.var 1) (.bin .sub (.bin .sub (.bi .len (.cons (.var 1) .nil)) (.bin .sub (.bi .len (.cons (.var 0) .nil)) (.var 3))) (.cst (.int 1)))))))
  (.cons (.aug 3 .sub (.cst (.int 1)))
  .nil))
  (.cons (.ret (.tup (.cons (.var 2) (.cons (.var 3) (.cons (.slc (.var 1) (.var 2) (.bin .sub (.bi .len (.cons (.var 1) .nil)) (.bin .sub (.bi .len (.cons (.var 0) .nil)) (.var 3)))) .nil)))))
  .nil)))))
theorem tr_law_change_between : trSs Zn N_law_change_between (defScope (top 15)) (defBody (top 15)) = some s_law_change_between := by decide +kernel
theorem sc_law_change_between : FnScope N_law_change_between ["_law_one_here", "_law_other"] (defScope (top 15)) := ⟨rfl, rfl, rfl, by decide +kernel, rfl, by decide +kernel, by decide +kernel⟩
def N_law_drawn_change : List Str := ["_law_bag_here", "_law_many", "_law_begin", "_law_end"]
def s_law_drawn_change : Ss :=
  (.cons (.asg 2 (.call 6 (.cons (.var 0) (.cons (.bin .add (.var 1) (.cst (.int 1))) .nil))))
  (.cons (.asg 3 (.bin .add (.var 2) (.call 6 (.cons (.var 0) (.cons (.bin .add (.bin .add (.bin .sub (.var 1) (.var 2)) (.cst (.int 1))) (.bin .mul (.cst (.int 2)) (.bi .int (.cons (.cmp .eq (.call 6 (.cons (.var 0) (.cons (.cst (.int 4)) .nil))) (.cst (.int 0))) .nil)))) .nil)))))
  (.cons (.ret (.tup (.cons (.var 2) (.cons (.var 3) (.cons (.call 7 (.cons (.var 0) (.cons (.lst (.cons (.cst (.str [])) (.cons (.cst (.str [120])) (.cons (.cst (.str [10])) (.cons (.cst (.str [108, 101, 116, 32, 97, 32, 61, 32, 49, 59])) (.cons (.cst (.str [32])) (.cons (.cst (.str [97, 97])) (.cons (.cst (.str [97, 98])) .nil)))))))) .nil))) .nil)))))
  .nil)))
theorem tr_law_drawn_change : trSs Zn N_law_drawn_change (defScope (top 17)) (defBody (top 17)) = some s_law_drawn_change := by decide +kernel
theorem sc_law_drawn_change : FnScope N_law_drawn_change ["_law_bag_here", "_law_many"] (defScope (top 17)) := ⟨rfl, rfl, rfl, by decide +kernel, rfl, by decide +kernel, by decide +kernel⟩
def N_law_rows_right : List Str := ["_law_bag_here", "_law_text", "_law_row", "_law_due", "_law_turn", "_law_change", "_law_given", "_law_shown"]
def s_law_rows_right : Ss :=
  (.cons (.par 2 3 (.lst .nil) (.tup (.cons (.cst (.str [116, 111, 108, 100])) (.cons (.var 1) .nil))))
  (.cons (.for_ (.nm 4) (.range1 (.call 6 (.cons (.var 0) (.cons (.cst (.int 5)) .nil))))
  (.cons (.asg 5 (.call 11 (.cons (.var 0) (.cons (.ite (.cmp .eq (.idx (.var 3) (.cst (.int 0))) (.cst (.str [116, 111, 108, 100]))) (.bi .len (.cons (.idx (.var 3) (.cst (.int 1))) .nil)) (.cst (.int 9))) .nil))))
  (.cons (.mut .append 2 (.cons (.var 5) .nil))
  (.cons (.if_ (.cmp .eq (.idx (.var 3) (.cst (.int 0))) (.cst (.str [116, 111, 108, 100])))
  (.cons (.asg 3 (.ite (.cmp .le (.idx (.var 5) (.cst (.int 1))) (.bi .len (.cons (.idx (.var 3) (.cst (.int 1))) .nil))) (.tup (.cons (.cst (.str [116, 111, 108, 100])) (.cons (.call 9 (.cons (.idx (.var 3) (.cst (.int 1))) (.cons (.var 5) .nil))) .nil))) (.tup (.cons (.cst (.str [110, 111, 110, 101])) (.cons (.var 5) .nil)))))
  .nil)
  .nil)
  .nil))))
  (.cons (.asgT (.cons (.nm 6) (.cons (.nm 7) .nil)) (.tup (.cons (.call 7 (.cons (.var 0) (.cons (.lst (.cons (.var 2) (.cons (.bi .tuple (.cons (.var 2) .nil)) .nil))) .nil))) (.cons (.bi .repr (.cons (.var 2) .nil)) .nil))))
  (.cons (.ret (.and_ (.call 8 (.cons (.heard 0 (.call 1 (.cons (.var 1) (.cons (.var 6) .nil)))) (.cons (.var 3) .nil))) (.cmp .eq (.bi .repr (.cons (.var 2) .nil)) (.var 7))))
  .nil))))
theorem tr_law_rows_right : trSs Zt N_law_rows_right (defScope (top 18)) (defBody (top 18)) = some s_law_rows_right := by decide +kernel
theorem sc_law_rows_right : FnScope N_law_rows_right ["_law_bag_here", "_law_text"] (defScope (top 18)) := ⟨rfl, rfl, rfl, by decide +kernel, rfl, by decide +kernel, by decide +kernel⟩
def N_law_all_between : List Str := ["_law_one_here", "_law_other", "_law_found", "_law_begin", "_law_end", "_law_size"]
def s_law_all_between : Ss :=
  (.cons (.asg 2 (.lst .nil))
  (.cons (.for_ (.nm 3) (.range1 (.bin .add (.bi .len (.cons (.var 0) .nil)) (.cst (.int 1))))
  (.cons (.for_ (.nm 4) (.range2 (.var 3) (.bin .add (.bi .len (.cons (.var 0) .nil)) (.cst (.int 1))))
  (.cons (.asg 5 (.bin .sub (.bin .sub (.bi .len (.cons (.var 1) .nil)) (.var 3)) (.bin .sub (.bi .len (.cons (.var 0) .nil)) (.var 4))))
  (.cons (.if_ (.and_ (.cmp .ge (.var 5) (.cst (.int 0))) (.and_ (.cmp .eq (.slc (.var 0) .abs (.var 3)) (.slc (.var 1) .abs (.var 3))) (.cmp .eq (.slc (.var 0) (.var 4) .abs) (.slc (.var 1) (.bin .add (.var 3) (.var 5)) .abs))))
  (.cons (.mut .append 2 (.cons (.tup (.cons (.var 3) (.cons (.var 4) .nil))) .nil))
  .nil)
  .nil)
  .nil)))
  .nil))
  (.cons (.ret (.var 2))
  .nil)))
theorem tr_law_all_between : trSs Zn N_law_all_between (defScope (top 19)) (defBody (top 19)) = some s_law_all_between := by decide +kernel
theorem sc_law_all_between : FnScope N_law_all_between ["_law_one_here", "_law_other"] (defScope (top 19)) := ⟨rfl, rfl, rfl, by decide +kernel, rfl, by decide +kernel, by decide +kernel⟩
def N_law : List Str := ["_law_script", "_law_bag_here", "_law_turn", "_law_text", "_law_change", "_law_due", "_law_back", "_law_signs", "_law_one_here", "_law_other", "_law_some", "_law_told", "_law_begin", "_law_end", "_law_k", "_law_place"]
def s_law : Ss :=
  (.cons (.asg 1 (.call 5 (.cons (.var 0) .nil)))
  (.cons (.for_ (.nm 2) (.range1 (.cst (.int 4)))
  (.cons (.asg 3 (.call 7 (.cons (.var 1) (.cons (.lst (.cons (.cst (.str [108, 101, 116, 32, 97, 32, 61, 32, 49, 59, 10, 10, 115, 101, 116, 32, 98, 61, 50, 59, 32, 35, 32, 120, 10])) (.cons (.cst (.str [])) (.cons (.cst (.str [97, 97, 97, 97])) (.cons (.cst (.str [120])) (.cons (.cst (.str [102, 40, 32, 97, 44, 10, 32, 98, 41, 59])) (.cons (.cst (.str [39, 39, 39, 97, 10, 98, 39, 39, 39, 59])) .nil))))))) .nil))))
  (.cons (.asg 4 (.call 11 (.cons (.var 1) (.cons (.bi .len (.cons (.var 3) .nil)) .nil))))
  (.cons (.asg 5 (.ite (.cmp .le (.idx (.var 4) (.cst (.int 1))) (.bi .len (.cons (.var 3) .nil))) (.tup (.cons (.cst (.str [116, 111, 108, 100])) (.cons (.call 9 (.cons (.var 3) (.cons (.var 4) .nil))) .nil))) (.tup (.cons (.cst (.str [110, 111, 110, 101])) (.cons (.var 4) .nil)))))
  (.cons (.if_ (.or_ (.not_ (.call 8 (.cons (.heard 0 (.call 0 (.cons (.var 3) (.cons (.var 4) .nil)))) (.cons (.var 5) .nil)))) (.not_ (.call 12 (.cons (.var 1) (.cons (.var 3) .nil)))))
  (.cons (.ret (.cst (.bl false)))
  .nil)
  .nil)
  (.cons (.if_ (.cmp .eq (.idx (.var 5) (.cst (.int 0))) (.cst (.str [116, 111, 108, 100])))
  (.cons (.asg 6 (.call 4 (.cons (.var 3) (.cons (.var 4) .nil))))
  (.cons (.if_ (.not_ (.call 8 (.cons (.var 6) (.cons (.tup (.cons (.idx (.var 4) (.cst (.int 0))) (.cons (.bin .add (.idx (.var 4) (.cst (.int 0))) (.bi .len (.cons (.idx (.var 4) (.cst (.int 2))) .nil))) (.cons (.slc (.var 3) (.idx (.var 4) (.cst (.int 0))) (.idx (.var 4) (.cst (.int 1)))) .nil)))) .nil))))
  (.cons (.ret (.cst (.bl false)))
  .nil)
  .nil)
  (.cons (.if_ (.not_ (.call 8 (.cons (.call 0 (.cons (.idx (.var 5) (.cst (.int 1))) (.cons (.var 6) .nil))) (.cons (.var 3) .nil))))
  (.cons (.ret (.cst (.bl false)))
  .nil)
  .nil)
  .nil)))
  .nil)
  .nil))))))
  (.cons (.for_ (.nm 2) (.range1 (.cst (.int 6)))
  (.cons (.asg 7 (.call 7 (.cons (.var 1) (.cons (.lst (.cons (.cst (.str [97])) (.cons (.cst (.str [97, 98])) (.cons (.cst (.str [97, 10])) .nil)))) .nil))))
  (.cons (.asg 8 (.meth .join (.cst (.str [])) (.cons (.comp (.nm 14) (.range1 (.call 6 (.cons (.var 1) (.cons (.cst (.int 7)) .nil)))) .nil (.call 7 (.cons (.var 1) (.cons (.var 7) .nil))) [14]) .nil)))
  (.cons (.asg 9 (.meth .join (.cst (.str [])) (.cons (.comp (.nm 14) (.range1 (.call 6 (.cons (.var 1) (.cons (.cst (.int 7)) .nil)))) .nil (.call 7 (.cons (.var 1) (.cons (.var 7) .nil))) [14]) .nil)))
  (.cons (.if_ (.cmp .eq (.call 6 (.cons (.var 1) (.cons (.cst (.int 4)) .nil))) (.cst (.int 0)))
  (.cons (.asg 9 (.var 8))
  .nil)
  .nil)
  (.cons (.par 10 11 (.call 13 (.cons (.var 8) (.cons (.var 9) .nil))) (.call 3 (.cons (.var 8) (.cons (.var 9) .nil))))
  (.cons (.asg 12 (.bi .max (.cons (.comp (.nm 15) (.e (.var 10)) .nil (.idx (.var 15) (.cst (.int 0))) [15]) .nil)))
  (.cons (.asg 13 (.bi .min (.cons (.comp (.nm 15) (.e (.var 10)) (.cons (.cmp .eq (.idx (.var 15) (.cst (.int 0))) (.var 12)) .nil) (.idx (.var 15) (.cst (.int 1))) [15]) .nil)))
  (.cons (.if_ (.or_ (.not_ (.call 8 (.cons (.var 11) (.cons (.call 10 (.cons (.var 8) (.cons (.var 9) .nil))) .nil)))) (.cmp .ne (.slc (.var 11) .abs (.cst (.int 2))) (.tup (.cons (.var 12) (.cons (.var 13) .nil)))))
  (.cons (.ret (.cst (.bl false)))
  .nil)
  .nil)
  (.cons (.if_ (.not_ (.call 8 (.cons (.call 0 (.cons (.var 8) (.cons (.var 11) .nil))) (.cons (.var 9) .nil))))
  (.cons (.ret (.cst (.bl false)))
  .nil)
  .nil)
  .nil))))))))))
  (.cons (.ret (.cst (.bl true)))
  .nil))))
theorem tr_law : trSs Zt N_law (defScope (top 20)) (defBody (top 20)) = some s_law := by decide +kernel
theorem sc_law : FnScope N_law ["_law_script"] (defScope (top 20)) := ⟨rfl, rfl, rfl, by decide +kernel, rfl, by decide +kernel, by decide +kernel⟩
end K60

set_option Elab.async false
set_option linter.all false
set_option maxRecDepth 100000
set_option maxHeartbeats 2000000
namespace K60
open PySem Dz
/-- the signature of a def: the defs that it calls, the tellers, the bound of its whiles, its changed arguments -/
def Sg (pre : List Fn) (tl : List ((D → D) × (Nat → D → D))) (fuel : Nat) (muts : List Bool) : Sig :=
  { fn := fun k => pre[k]?, told := fun k => tl[k]?, exc := fun c => c == 0, fuel := fuel, pin := fun k => muts.getD k false }
theorem addS {s t : List Nat} (h : s.length + t.length ≤ 16777216) : binD .add (.str s) (.str t) = some (.str (s ++ t)) := if_pos h
theorem addI {i j : Int} : binD .add (.int i) (.int j) = some (.int (i + j)) := rfl
theorem slcS {s : List Nat} {l u : Option Int} (h : s.length ≤ 16777216) : slcD (.str s) l u = some (.str (cut s l u)) := if_pos h
theorem lenS {s : List Nat} (h : s.length ≤ 16777216) : biD .len [.str s] = some (.int s.length) := if_pos h
theorem ifd {p : Prop} [Decidable p] {A B : Prop} (h1 : p → A) (h2 : ¬ p → B) : if decide p = true then A else B := by
  by_cases h : p
  · simp only [h, decide_true, if_true]; exact h1 h
  · simp only [h, decide_false, Bool.false_eq_true, if_false]; exact h2 h
theorem ix_nn {n d : Nat} {i : Int} (h : 0 ≤ i) : HT.sIx n d (some i) = min i.toNat n := by
  show (if i < 0 then (i + (n : Int)).toNat else min i.toNat n) = _
  rw [if_neg (by omega)]
theorem cutTo {α : Type} {t : List α} {i : Int} (h : 0 ≤ i) : cut t none (some i) = t.take i.toNat := by
  unfold cut
  rw [ix_nn h]
  show (t.drop 0).take (min i.toNat t.length - 0) = _
  rw [List.drop_zero, Nat.sub_zero]
  by_cases c : i.toNat ≤ t.length
  · rw [Nat.min_eq_left c]
  · rw [Nat.min_eq_right (by omega), List.take_of_length_le (Nat.le_refl _), List.take_of_length_le (by omega)]
theorem cutFrom {α : Type} {t : List α} {i : Int} (h : 0 ≤ i) : cut t (some i) none = t.drop i.toNat := by
  unfold cut
  rw [ix_nn h]
  show (t.drop (min i.toNat t.length)).take (t.length - min i.toNat t.length) = _
  rw [List.take_of_length_le (by rw [List.length_drop]; exact Nat.le_refl _)]
  by_cases c : i.toNat ≤ t.length
  · rw [Nat.min_eq_left c]
  · rw [Nat.min_eq_right (by omega), List.drop_of_length_le (Nat.le_refl _), List.drop_of_length_le (by omega)]
theorem cutMid {α : Type} {t : List α} {i j : Int} (h : 0 ≤ i) (h2 : 0 ≤ j) : cut t (some i) (some j) = (t.drop i.toNat).take (j.toNat - i.toNat) := by
  unfold cut
  rw [ix_nn h, ix_nn h2]
  by_cases c : i.toNat ≤ t.length
  · rw [Nat.min_eq_left c]
    by_cases c2 : j.toNat ≤ t.length
    · rw [Nat.min_eq_left c2]
    · rw [Nat.min_eq_right (by omega), List.take_of_length_le (by rw [List.length_drop]; exact Nat.le_refl _), List.take_of_length_le (by rw [List.length_drop]; omega)]
  · rw [Nat.min_eq_right (show t.length ≤ i.toNat by omega), List.drop_of_length_le (Nat.le_refl _), List.drop_of_length_le (show t.length ≤ i.toNat by omega)]
    simp
theorem slcTo {s : List Nat} {i : Int} (h : s.length ≤ 16777216) (h1 : 0 ≤ i) : slcD (.str s) none (some i) = some (.str (s.take i.toNat)) := by rw [← cutTo h1]; exact if_pos h
theorem slcFrom {s : List Nat} {i : Int} (h : s.length ≤ 16777216) (h1 : 0 ≤ i) : slcD (.str s) (some i) none = some (.str (s.drop i.toNat)) := by rw [← cutFrom h1]; exact if_pos h
theorem slcMid {s : List Nat} {i j : Int} (h : s.length ≤ 16777216) (h1 : 0 ≤ i) (h2 : 0 ≤ j) : slcD (.str s) (some i) (some j) = some (.str ((s.drop i.toNat).take (j.toNat - i.toNat))) := by rw [← cutMid h1 h2]; exact if_pos h
theorem slcLFrom {s : List D} {i : Int} (h1 : 0 ≤ i) : slcD (.lst s) (some i) none = some (.own (.lst (s.drop i.toNat))) := by rw [← cutFrom h1]; rfl
theorem slcLTo {s : List D} {i : Int} (h1 : 0 ≤ i) : slcD (.lst s) none (some i) = some (.own (.lst (s.take i.toNat))) := by rw [← cutTo h1]; rfl
section
variable {pin : Nat → Bool} {env : Dz.Env} {Q : Unit → Dz.Env → Prop} {X : Nat → D → Dz.Env → Prop}
theorem g_nm {i : Nat} {d : D} (p : pin i = false) (l : i < env.length) (h : Q () (env.set i (some d))) : W (asT pin (.nm i) d) env Q X := by
  unfold W
  rw [asT, if_neg (by rw [p]; simp)]
  unfold setV
  rw [if_pos l]
  exact h
theorem g_tp {ts : Ts} {ds : List D} (h : W (asTs pin ts ds) env Q X) : W (asT pin (.tp ts) (.tup ds)) env Q X := by
  rw [asT]
  exact h
theorem g_nil (h : Q () env) : W (asTs pin .nil []) env Q X := by
  rw [asTs]
  exact h
theorem g_cons {t : T} {ts : Ts} {d : D} {ds : List D} (h : W (asT pin t d) env (fun _ e1 => W (asTs pin ts ds) e1 Q X) X) : W (asTs pin (.cons t ts) (d :: ds)) env Q X := by
  rw [asTs]
  exact w_bind (W.imp h (fun _ _ h => h) fun _ _ _ z => z)
end
theorem small_mod {x : Int} : small64 (x.fmod 1000000007) = true := by
  have h1 := Int.fmod_nonneg_of_pos x (show (0 : Int) < 1000000007 by decide)
  have h2 := Int.fmod_lt_of_pos x (show (0 : Int) < 1000000007 by decide)
  unfold small64
  simp only [decide_eq_true_eq]
  omega
theorem ifT {A B : Prop} (h : A) : if true = true then A else B := h
theorem ifF {A B : Prop} (h : B) : if false = true then A else B := h
theorem mulR {i j : Int} (h : small64 j = true) : binD .mul (.int i) (.int j) = some (.int (i * j)) := if_pos (by rw [h, Bool.or_true])
theorem mulL {i j : Int} (h : small64 i = true) : binD .mul (.int i) (.int j) = some (.int (i * j)) := if_pos (by rw [h, Bool.true_or])
theorem modV {i j : Int} (h : j ≠ 0) : binD .mod (.int i) (.int j) = some (.int (i.fmod j)) := if_pos h
theorem fdivV {i j : Int} (h : j ≠ 0) (h2 : j.natAbs < 1073741824) : binD .fdiv (.int i) (.int j) = some (.int (i.fdiv j)) := if_pos ⟨h, h2⟩
theorem pow18 : binD .pow (.int 10) (.int 18) = some (.int 1000000000000000000) := by decide +kernel
theorem addL {s t : List D} (h : s.length + t.length ≤ 16777216) : binD .add (.lst s) (.lst t) = some (.own (.lst (s ++ t))) := if_pos h
local macro_rules | `(tactic| l_ints) => `(tactic| first
  | (with_reducible refine x_cons ?_)
  | (with_reducible refine x_nil ?_) | (with_reducible refine i_e ?_) | (with_reducible refine i_r1 ?_) | (with_reducible refine i_r2 ?_) | (with_reducible refine i_ez ?_) | (with_reducible refine c_turn ?_) | (with_reducible refine c_nil ?_) | (with_reducible refine c_one ?_)
  | (with_reducible refine s_asg ?_)
  | (with_reducible refine s_asgT ?_)
  | (with_reducible refine s_par ?_)
  | (with_reducible refine s_if ?_)
  | (with_reducible refine s_raise ?_)
  | (with_reducible refine s_expr ?_)
  | ((with_reducible refine s_ret ?e1 ?k1); (case e1 => exact fun _ => rfl))
  | (with_reducible refine e_cst ?_)
  | (with_reducible refine e_bin ?_)
  | (with_reducible refine e_cmp ?_)
  | (with_reducible refine e_idx ?_)
  | (with_reducible refine e_slc ?_)
  | (with_reducible refine e_rev ?_)
  | (with_reducible refine e_and ?_)
  | (with_reducible refine e_ite ?_)
  | (with_reducible refine e_tup ?_)
  | (with_reducible refine e_lst ?_)
  | (with_reducible refine e_bi ?_)
  | (with_reducible refine e_neg ?_)
  | (with_reducible refine e_meth ?_)
  | (with_reducible refine t_cmp ?_) | (with_reducible refine g_tp ?_) | (with_reducible refine g_cons ?_) | (with_reducible refine g_nil ?_) | ((with_reducible refine' g_nm ?e1 ?e2 ?k1); (case e1 => exact rfl); (case e2 => exact Nat.le_of_ble_eq_true rfl))
  | (with_reducible refine t_and ?_)
  | (with_reducible refine t_or ?_)
  | (with_reducible refine t_not ?_)
  | (with_reducible refine s_nil ?_)
  | (with_reducible refine s_cons ?_)
  | (with_reducible refine o_nil ?_)
  | (with_reducible refine o_cons ?_)
  | (with_reducible refine a_nil ?_)
  | (with_reducible refine a_val ?_)
  | (with_reducible refine p_abs ?_)
  | ((with_reducible refine' e_call (ms := [true, false]) ?e1 ?e2 ?k1); (case e1 => exact rfl); (case e2 => exact rfl)) | ((with_reducible refine' e_call (ms := [false, false]) ?e1 ?e2 ?k1); (case e1 => exact rfl); (case e2 => exact rfl)) | ((with_reducible refine' e_call (ms := [false]) ?e1 ?e2 ?k1); (case e1 => exact rfl); (case e2 => exact rfl))
  | (with_reducible refine ifT ?_) | (with_reducible refine ifF ?_)
  | (with_reducible refine ifd (fun _ => ?_) (fun _ => ?_))
  | ((with_reducible refine' e_var ?e1 ?o1 ?k1); (case e1 => first | exact rfl | exact fun _ => rfl); (case o1 => first | exact rfl | exact fun _ => rfl))
  | ((with_reducible refine' s_retv ?e1 ?o1 ?k1); (case e1 => first | exact rfl | exact fun _ => rfl); (case o1 => first | exact rfl | exact fun _ => rfl))
  | ((with_reducible refine' r_var ?e1 ?k1); (case e1 => first | exact rfl | exact fun _ => rfl))
  | ((with_reducible refine' a_var ?e1 ?k1); (case e1 => first | exact rfl | exact fun _ => rfl))
  | ((with_reducible refine' r_val ?e1 ?k1); (case e1 => first | exact rfl | exact fun _ => rfl))
  | ((with_reducible refine' p_val ?e1 ?k1); (case e1 => first | exact rfl | exact fun _ => rfl))
  | ((with_reducible refine' s_augIx ?e1 ?k1); (case e1 => exact rfl)) | (with_reducible refine s_setIx ?_) | ((with_reducible refine' s_mut ?e1 ?k1); (case e1 => exact rfl)) | ((with_reducible refine' e_varO ?e1 ?e2 ?k1); (case e1 => exact rfl); (case e2 => exact rfl)) | ((with_reducible refine' s_retO ?e1 ?e2 ?k1); (case e1 => exact rfl); (case e2 => exact rfl)) | ((with_reducible refine' s_aug ?e1 ?k1); (case e1 => exact rfl))
  | ((with_reducible refine' ⟨_, _, _, _, ?a1, ?a2, ?a3, ?a4, ?k1⟩); (case a1 => exact rfl); (case a2 => exact rfl); (case a3 => exact rfl); (case a4 => exact rfl))
  | ((with_reducible refine' ⟨_, _, ?a1, ?a2, _, ?a3, ?k1⟩); (case a1 => exact rfl); (case a2 => exact rfl); (case a3 => exact rfl))
  | ((with_reducible refine' ⟨⟨_, ?a1⟩, ?k1⟩); (case a1 => exact rfl))
  | ((with_reducible refine' ⟨_, _, _, ?a1, ?a2, ?a3, ?k1⟩); (case a1 => exact rfl); (case a2 => exact rfl); (case a3 => first | exact rfl | exact pow18 | (refine mulR ?_; decide +kernel) | (refine mulL ?_; decide +kernel) | (refine mulR ?_; exact small_mod) | (refine modV ?_ <;> omega) | (refine fdivV ?_ ?_ <;> omega) | (refine addS ?_; simp only [List.length_append, List.length_take, List.length_drop]; omega)))
  | ((with_reducible refine' ⟨_, _, ?a1, ?a2, ?k1⟩); (case a1 => exact rfl); (case a2 => first | exact rfl | (refine lenS ?_ <;> omega) | (refine slcTo ?_ ?_ <;> omega) | (refine slcFrom ?_ ?_ <;> omega) | (refine slcMid ?_ ?_ ?_ <;> omega) | (refine slcLTo ?_ <;> omega) | (refine slcLFrom ?_ <;> omega)))
  | ((with_reducible refine' ⟨_, ?a1, ?k1⟩); (case a1 => exact rfl))
  | ((with_reducible refine ⟨?a1, ?a2, ?k1⟩); (case a1 => exact rfl); (case a2 => exact Nat.le_of_ble_eq_true rfl))
  | ((with_reducible refine' ⟨?a1, ?k1⟩); (case a1 => first | exact rfl | exact Nat.le_of_ble_eq_true rfl))
  | fail "no step")
def Fchanged : Fn := fnD (Sg [] [] 0 [false, false]) [false, false] N_changed.length s_changed
theorem run_changed {t s : List Nat} {b e : Int} (ht : t.length ≤ 100000) (hs : s.length ≤ 100000) (hb : 0 ≤ b) (he : 0 ≤ e) :
    Rn Fchanged [.str t, .tup [.int b, .int e, .str s]] (fun d os => e ≤ t.length ∧ d = .str (t.take b.toNat ++ s ++ t.drop e.toNat) ∧ os = [.str t, .tup [.int b, .int e, .str s]])
      (fun c d os => (t.length : Int) < e ∧ c = 0 ∧ d = .tup [.int b, .int e, .str s] ∧ os = [.str t, .tup [.int b, .int e, .str s]]) := by
  refine fn_run rfl ?_
  unfold s_changed
  repeat' l_ints
  · exact ⟨_, rfl, by omega, rfl, rfl, rfl⟩
  · exact ⟨_, rfl, by omega, rfl, rfl⟩
/-- a bag of numbers, as it stands between two draws -/
def bagD (a b c : Int) (cs : List Int) : D := .lst [.int a, .int b, .int c, .lst (cs.map .int), .int 0, .int 0]
def BagOk (d : D) : Prop := ∃ (a b c : Int) (cs : List Int), d = .own (bagD a b c cs) ∧ 0 ≤ a ∧ 0 ≤ b ∧ 0 ≤ c ∧ (∀ z ∈ cs, 0 ≤ z) ∧ cs.length ≤ 63
/-- the cell that is drawn -/
def cellAt (c : Int) (cs : List Int) : Int := (cs.drop c.toNat).headD 0
theorem head_ok {c : Int} {cs : List Int} (hc : 0 ≤ c) (h : ∀ z ∈ cs, 0 ≤ z) : 0 ≤ cellAt c cs := by
  unfold cellAt
  cases q : cs.drop c.toNat with
  | nil => exact Int.le_refl 0
  | cons x r => exact h x (List.mem_of_mem_drop (by rw [q]; simp))
theorem atI_zero {α : Type} {x : α} {r : List α} : L2.atI (x :: r) 0 = some x := by
  unfold L2.atI L2.ixN
  rw [if_pos (Int.le_refl 0), if_pos (by simp only [List.length_cons]; omega)]
  rfl
theorem idx_cell {c : Int} {cs : List Int} (hc : 0 ≤ c) : idxD (.lst (cut (cs.map D.int) (some c) none ++ [.int 0])) (.int 0) = some (.int (cellAt c cs)) := by
  rw [cutFrom hc, ← List.map_drop]
  unfold cellAt
  cases q : cs.drop c.toNat with
  | nil => exact atI_zero
  | cons x r => exact atI_zero
def Ftake : Fn := fnD (Sg [] [] 0 [true, false]) [true, false] N_law_take.length s_law_take
theorem run_take {d : D} {m : Int} (hb : BagOk d) (hm : 1 ≤ m) (hm2 : m < 1000000000) :
    Rn Ftake [d, .int m] (fun v os => ∃ (i : Int) (d' : D), v = .int i ∧ 0 ≤ i ∧ i < m ∧ os = [d', .int m] ∧ BagOk d') (fun _ _ _ => False) := by
  obtain ⟨a, b, c, cs, rfl, ha, hb, hc, hcs, hl⟩ := hb
  have hd := head_ok hc hcs
  refine fn_run rfl ?_
  unfold s_law_take bagD
  have n0 : ∀ x y : Int, 1 ≤ y → 0 ≤ x.fmod y := fun x y h => Int.fmod_nonneg_of_pos x (by omega)
  have n1 : ∀ x y : Int, 1 ≤ y → x.fmod y < y := fun x y h => Int.fmod_lt_of_pos x (by omega)
  have n2 : ∀ x y : Int, 0 ≤ x → 1 ≤ y → 0 ≤ x.fdiv y := fun x y h h2 => by rw [Int.fdiv_eq_ediv_of_nonneg _ (by omega)]; exact Int.ediv_nonneg h (by omega)
  repeat' l_ints
  · refine ⟨_, _, _, rfl, rfl, addL ?_, ?_⟩
    · rw [cutFrom hc]; simp; omega
    repeat' l_ints
    refine ⟨_, _, _, rfl, rfl, idx_cell hc, ?_⟩
    repeat' l_ints
    all_goals exact ⟨_, rfl, _, _, rfl, n0 _ _ hm, n1 _ _ hm, rfl, _, _, _, cs, rfl, by first | omega | exact n2 _ _ (by omega) hm, by first | omega | exact n0 _ _ (by decide), by first | omega | (show 0 ≤ c + 1; omega), hcs, hl⟩
  all_goals exact ⟨_, rfl, _, _, rfl, n0 _ _ hm, n1 _ _ hm, rfl, _, _, _, cs, rfl, by first | omega | exact n2 _ _ (by omega) hm, by first | omega | exact n0 _ _ (by decide), by first | omega | (show 0 ≤ c + 1; omega), hcs, hl⟩
theorem Rn.imp {F : Fn} {args : List D} {R R' : D → List D → Prop} {X X' : Nat → D → List D → Prop} (h : Rn F args R X) (h1 : ∀ d os, R d os → R' d os) (h2 : ∀ c d os, X c d os → X' c d os) : Rn F args R' X' := by
  unfold Rn at h ⊢
  split at h
  · exact h1 _ _ h
  · exact h2 _ _ _ h
  · exact h.elim
/-- the defs, in the order of fs -/
def Fchanged_by : Fn := fnD (Sg [Fchanged] [] 0 [false, false]) [false, false] N_changed_by.length s_changed_by
def Fcommon : Fn := fnD (Sg [Fchanged, Fchanged_by] [] 0 [false, false]) [false, false] N_common_begin.length s_common_begin
def P2 : List Fn := [Fchanged, Fchanged_by, Fcommon]
def Fbetween : Fn := fnD (Sg P2 [] 0 [false, false]) [false, false] N_change_between.length s_change_between
def Fback : Fn := fnD (Sg (P2 ++ [Fbetween]) [] 0 [false, false]) [false, false] N_back_of.length s_back_of
def Fbag : Fn := fnD (Sg (P2 ++ [Fbetween, Fback]) [] 0 [false]) [false] N_law_bag.length s_law_bag
def P6 : List Fn := P2 ++ [Fbetween, Fback, Fbag, Ftake]
def Fone : Fn := fnD (Sg P6 [] 0 [true, false]) [true, false] N_law_one.length s_law_one
def Falike : Fn := fnD (Sg (P6 ++ [Fone]) [] 0 [false, false]) [false, false] N_law_alike.length s_law_alike
def Fchg : Fn := fnD (Sg (P6 ++ [Fone, Falike]) [] 0 [false, false]) [false, false] N_law_changed.length s_law_changed
theorem run_back {t s : List Nat} {b e : Int} (ht : t.length ≤ 100000) (hs : s.length ≤ 100000) (hb : 0 ≤ b) (he : 0 ≤ e) :
    Rn Fback [.str t, .tup [.int b, .int e, .str s]] (fun d os => d = .tup [.int b, .int (b + s.length), .str ((t.drop b.toNat).take (e.toNat - b.toNat))] ∧ os = [.str t, .tup [.int b, .int e, .str s]]) (fun _ _ _ => False) := by
  refine fn_run rfl ?_
  unfold s_back_of
  repeat' l_ints
  exact ⟨_, rfl, rfl, rfl⟩
theorem run_chg {t s : List Nat} {b e : Int} (ht : t.length ≤ 100000) (hs : s.length ≤ 100000) (hb : 0 ≤ b) (he : 0 ≤ e) :
    Rn Fchg [.str t, .tup [.int b, .int e, .str s]] (fun d os => d = .str (t.take b.toNat ++ s ++ t.drop e.toNat) ∧ os = [.str t, .tup [.int b, .int e, .str s]]) (fun _ _ _ => False) := by
  refine fn_run rfl ?_
  unfold s_law_changed
  repeat' l_ints
  exact ⟨_, rfl, rfl, rfl⟩
theorem bag_own {d : D} (h : BagOk d) : ∃ q, d = .own q := by
  obtain ⟨a, b, c, cs, rfl, _⟩ := h
  exact ⟨_, rfl⟩
theorem idx_mem {ds : List D} {i : Int} (h : 0 ≤ i) (h2 : i < ds.length) : ∃ z, idxD (.lst ds) (.int i) = some z ∧ z ∈ ds := by
  have hl : i.toNat < ds.length := by omega
  refine ⟨ds[i.toNat], ?_, List.getElem_mem hl⟩
  show L2.atI ds i = _
  unfold L2.atI L2.ixN
  rw [if_pos h, if_pos h2]
  show ds[i.toNat]? = _
  exact List.getElem?_eq_getElem hl
theorem run_one {d : D} {ds : List D} (hb : BagOk d) (h : 1 ≤ ds.length) (h2 : ds.length < 1000000) :
    Rn Fone [d, .lst ds] (fun v os => ∃ d', v ∈ ds ∧ os = [d', .lst ds] ∧ BagOk d') (fun _ _ _ => False) := by
  obtain ⟨q, rfl⟩ := bag_own hb
  refine fn_run rfl ?_
  unfold s_law_one
  repeat' l_ints
  refine ⟨by simp [places], _, rfl, Rn.imp (run_take hb (m := ds.length) (by omega) (by omega)) ?_ fun _ _ _ z => z.elim⟩
  rintro v os ⟨i, d', rfl, h0, h1, rfl, hb'⟩
  obtain ⟨z, hz, hm⟩ := idx_mem h0 h1
  obtain ⟨q', rfl⟩ := bag_own hb'
  refine ⟨_, rfl, _, _, z, rfl, rfl, hz, ?_⟩
  exact ⟨_, rfl, _, hm, rfl, hb'⟩
/-- a datum that compares and shows itself -/
structure Fine (d : D) : Prop where
  ok : d.okv = true
  dep : d.py.depth ≤ 64
  wt : d.wt ≤ lim
theorem okv_fz {d : D} (h : d.okv = true) : d.fz = d := by
  cases d <;> first | rfl | (rw [D.okv] at h; cases h)
theorem run_alike {d : D} (h : Fine d) : Rn Falike [d, d] (fun v os => v = .bl true ∧ os = [d, d]) (fun _ _ _ => False) := by
  have hz := okv_fz h.ok
  have ho : d.isOwn = false := by
    have := h.ok
    cases d <;> first | rfl | (rw [D.okv] at this; cases this)
  refine fn_run (by simp [okArgs, ho]) ?_
  unfold s_law_alike
  have g0 : ∀ (i : Nat) (env : Dz.Env), env[i]? = some (some d) → gtO (.pl i) env = some d := fun i env e => by simp only [gtO, e, hz]
  repeat' l_ints
  refine ⟨d, d, true, g0 0 _ rfl, g0 1 _ rfl, eq_self h.ok h.dep, true, rfl, ?_⟩
  rw [if_pos rfl]
  repeat' l_ints
  have gs : ∀ (i : Nat) (env : Dz.Env), env[i]? = some (some d) → getsO [.pl i] env = some [d] := fun i env e => by simp only [getsO, g0 i env e, Option.bind_some, Option.map_some]
  refine ⟨[d], _, gs 0 _ rfl, repr_ok h.ok h.dep h.wt, ?_⟩
  repeat' l_ints
  refine ⟨[d], _, gs 1 _ rfl, repr_ok h.ok h.dep h.wt, ?_⟩
  refine ⟨_, _, true, rfl, rfl, congrArg some (decide_eq_true rfl), ?_⟩
  exact ⟨_, rfl, rfl, rfl⟩
def absI (z : Int) : Int := if z < 0 then -z else z
theorem absI_nn (z : Int) : 0 ≤ absI z := by unfold absI; split <;> omega
theorem run_bag {ns : List Int} (h : ns.length ≤ 63) : Rn Fbag [.lst (ns.map .int)] (fun v os => BagOk v ∧ os = [.lst (ns.map .int)]) (fun _ _ _ => False) := by
  have hc : cut (ns.map D.int) none (some 63) = ns.map D.int := by
    rw [cutTo (by decide)]
    exact List.take_of_length_le (by rw [List.length_map]; exact h)
  refine fn_run rfl ?_
  unfold s_law_bag
  repeat' l_ints
  refine e_comp ?_
  repeat' l_ints
  rw [hc]
  refine ⟨fun k acc e => ∃ x, e = [some (.lst (ns.map .int)), x] ∧ acc = (ns.take k).map fun z => .int (absI z), ⟨_, rfl, rfl⟩, ?_, ?_⟩
  · rintro k d acc e hd ⟨x, rfl, rfl⟩
    obtain ⟨z, hz, rfl⟩ : ∃ z, ns[k]? = some z ∧ d = .int z := by
      rw [List.getElem?_map] at hd
      cases q : ns[k]? with
      | none => rw [q] at hd; cases hd
      | some z => rw [q] at hd; cases hd; exact ⟨z, rfl, rfl⟩
    have hk : k < ns.length := (List.getElem?_eq_some_iff.mp hz).1
    repeat' l_ints
    refine ⟨by rw [List.length_map, List.length_take]; unfold lim; omega, _, rfl, ?_⟩
    rw [List.take_add_one, hz, List.map_append]
    rfl
  · rintro acc e ⟨x, rfl, rfl⟩
    have e : (List.map (fun z => D.int (absI z)) (List.take (List.map D.int ns).length ns)) = (ns.map absI).map D.int := by
      rw [List.length_map, List.take_of_length_le (Nat.le_refl _), List.map_map]
      rfl
    rw [e]
    repeat' l_ints
    refine ⟨_, rfl, ⟨0, 1234567891, 0, ns.map absI, rfl, by decide, by decide, by decide, ?_, by rw [List.length_map]; exact h⟩, rfl⟩
    intro z hz
    obtain ⟨y, _, rfl⟩ := List.mem_map.mp hz
    exact absI_nn y
def Fcb2 : Fn := fnD (Sg (P6 ++ [Fone, Falike, Fchg]) [] 200 [false, false]) [false, false] N_law_change_between.length s_law_change_between
def P10 : List Fn := P6 ++ [Fone, Falike, Fchg, Fcb2]
def Fdrawn : Fn := fnD (Sg P10 [] 0 [true, false]) [true, false] N_law_drawn_change.length s_law_drawn_change
theorem run_drawn {d : D} {n : Int} (hb : BagOk d) (hn : 0 ≤ n) (hn2 : n < 1000000) :
    Rn Fdrawn [d, .int n] (fun v os => ∃ (d' : D) (b e : Int) (s : List Nat), v = .tup [.int b, .int e, .str s] ∧ 0 ≤ b ∧ b ≤ e ∧ e < 3000000 ∧ s.length ≤ 20 ∧ s.all (· < 0x110000) = true ∧ os = [d', .int n] ∧ BagOk d') (fun _ _ _ => False) := by
  obtain ⟨q, rfl⟩ := bag_own hb
  refine fn_run rfl ?_
  unfold s_law_drawn_change
  repeat' l_ints
  refine ⟨by simp [places], _, rfl, Rn.imp (run_take hb (m := n + 1) (by omega) (by omega)) ?_ fun _ _ _ z => z.elim⟩
  rintro v os ⟨i, d', rfl, h0, h1, rfl, hb1⟩
  obtain ⟨q1, rfl⟩ := bag_own hb1
  refine ⟨_, rfl, ?_⟩
  repeat' l_ints
  refine ⟨by simp [places], _, rfl, Rn.imp (run_take hb1 (m := 4) (by omega) (by omega)) ?_ fun _ _ _ z => z.elim⟩
  rintro v os ⟨j, d', rfl, h2, h3, rfl, hb2⟩
  obtain ⟨q2, rfl⟩ := bag_own hb2
  refine ⟨_, rfl, ?_⟩
  repeat' l_ints
  generalize ht : (if decide (j = 0) = true then (1 : Int) else 0) = t
  have ht2 : 0 ≤ t ∧ t ≤ 1 := by subst ht; split <;> omega
  refine ⟨by simp [places], _, rfl, Rn.imp (run_take hb2 (m := n - i + 1 + 2 * t) (by omega) (by omega)) ?_ fun _ _ _ z => z.elim⟩
  rintro v os ⟨l, d', rfl, h4, h5, rfl, hb3⟩
  obtain ⟨q3, rfl⟩ := bag_own hb3
  refine ⟨_, rfl, ?_⟩
  repeat' l_ints
  refine ⟨by simp [places], _, rfl, Rn.imp (run_one hb3 (by decide) (by decide)) ?_ fun _ _ _ z => z.elim⟩
  rintro v os ⟨d', hm, rfl, hb4⟩
  obtain ⟨q4, rfl⟩ := bag_own hb4
  obtain ⟨s, rfl, hs1, hs2⟩ : ∃ s, v = .str s ∧ s.length ≤ 20 ∧ s.all (· < 0x110000) = true := by
    simp only [List.mem_cons, List.mem_nil_iff, or_false, D.fz] at hm
    rcases hm with rfl | rfl | rfl | rfl | rfl | rfl | rfl <;> exact ⟨_, rfl, by decide, by decide⟩
  refine ⟨_, rfl, ?_⟩
  repeat' l_ints
  exact ⟨_, rfl, _, _, _, _, rfl, h0, by omega, by omega, hs1, hs2, rfl, hb4⟩
/-- a change: begin, end, string -/
abbrev Ch := Int × Int × List Nat
def chD (c : Ch) : D := .tup [.int c.1, .int c.2.1, .str c.2.2]
def chg (t : List Nat) (c : Ch) : List Nat := t.take c.1.toNat ++ c.2.2 ++ t.drop c.2.1.toNat
/-- changes, one after the other, to the first that is beyond -/
def goAll : List Nat → List Ch → List Nat ⊕ Ch
  | t, [] => .inl t
  | t, c :: r => if c.2.1 ≤ t.length then goAll (chg t c) r else .inr c
theorem goAll_cons {t : List Nat} {c : Ch} {r : List Ch} : goAll t (c :: r) = if c.2.1 ≤ t.length then goAll (chg t c) r else .inr c := rfl
def ChOk (c : Ch) : Prop := 0 ≤ c.1 ∧ 0 ≤ c.2.1 ∧ c.2.2.length ≤ 20 ∧ c.2.2.all (· < 0x110000) = true
theorem chg_len (t : List Nat) {c : Ch} (h : ChOk c) : (chg t c).length ≤ 2 * t.length + 20 := by
  unfold chg
  simp only [List.length_append, List.length_take, List.length_drop]
  have := h.2.2.1
  omega
theorem run_changed_by {t : List Nat} {cs : List Ch} {dl : D} (hd : itemsD dl = some (cs.map chD)) (ho : dl.isOwn = false) (hf : dl.fz = dl) (ht : t.length ≤ 100) (hl : cs.length ≤ 5) (hc : ∀ c ∈ cs, ChOk c) :
    Rn Fchanged_by [.str t, dl] (fun d os => ∃ t', goAll t cs = .inl t' ∧ d = .str t' ∧ os = [.str t, dl]) (fun c d os => ∃ x, goAll t cs = .inr x ∧ c = 0 ∧ d = chD x ∧ os = [.str t, dl]) := by
  refine fn_run (by show ((false || !(D.str t).isOwn) && ((false || !dl.isOwn) && true)) = true; rw [ho]; rfl) ?_
  unfold s_changed_by
  refine x_cons (s_for (i_e (e_var rfl ho ⟨_, by rw [hf]; exact hd, ?_⟩)))
  refine ⟨fun k e => ∃ tk x, e = [some (.str tk), some dl, x] ∧ goAll t cs = goAll tk (cs.drop k) ∧ tk.length + 20 ≤ 120 * 2 ^ k, ⟨t, none, rfl, rfl, by simp; omega⟩, ?_, ?_⟩
  · rintro k d e hk ⟨tk, x, rfl, hg, hlen⟩
    obtain ⟨c, hc1, rfl⟩ : ∃ c, cs[k]? = some c ∧ d = chD c := by
      rw [List.getElem?_map] at hk
      cases q : cs[k]? with
      | none => rw [q] at hk; cases hk
      | some z => rw [q] at hk; cases hk; exact ⟨z, rfl, rfl⟩
    have hkl : k < cs.length := (List.getElem?_eq_some_iff.mp hc1).1
    have hcm : c ∈ cs := List.mem_of_getElem? hc1
    have ok := hc c hcm
    have hdr : cs.drop k = c :: cs.drop (k + 1) := by
      rw [List.drop_eq_getElem_cons hkl]
      congr 1
      exact (List.getElem?_eq_some_iff.mp hc1).2
    have hp : 2 ^ k ≤ 16 := Nat.pow_le_pow_right (by decide) (by omega : k ≤ 4)
    rw [hdr] at hg
    repeat' l_ints
    refine ⟨by simp [places], _, rfl, Rn.imp (run_changed (t := tk) (s := c.2.2) (by omega) (by have := ok.2.2.1; omega) ok.1 ok.2.1) ?_ ?_⟩
    · rintro v os ⟨h1, rfl, rfl⟩
      refine ⟨_, rfl, rfl, Nat.le_of_ble_eq_true rfl, ?_⟩
      refine x_nil ⟨chg tk c, some (chD c), rfl, ?_, ?_⟩
      · rw [hg, goAll_cons, if_pos h1]
      · have := chg_len tk ok
        rw [Nat.pow_succ]
        omega
    · rintro n v os ⟨h1, rfl, rfl, rfl⟩
      refine ⟨_, rfl, _, rfl, c, ?_, rfl, rfl, rfl⟩
      rw [hg, goAll_cons, if_neg (by omega)]
  · rintro e ⟨tk, x, rfl, hg, hlen⟩
    repeat' l_ints
    refine ⟨_, rfl, tk, ?_, rfl, rfl⟩
    rw [hg, List.length_map, List.drop_length]
    rfl
/-- how many signs two texts share at their begin -/
def lcp : List Nat → List Nat → Nat
  | a :: s, b :: t => if a = b then lcp s t + 1 else 0
  | _, _ => 0
theorem lcp_le : ∀ s t : List Nat, lcp s t ≤ s.length ∧ lcp s t ≤ t.length
  | [], _ => ⟨Nat.zero_le _, Nat.zero_le _⟩
  | _ :: _, [] => ⟨Nat.zero_le _, Nat.zero_le _⟩
  | a :: s, b :: t => by
    have := lcp_le s t
    unfold lcp
    split
    · simp only [List.length_cons]; omega
    · exact ⟨Nat.zero_le _, Nat.zero_le _⟩
theorem lcp_step : ∀ (s t : List Nat) (k c d : Nat), k ≤ lcp s t → s[k]? = some c → t[k]? = some d → (c = d → k + 1 ≤ lcp s t) ∧ (c ≠ d → lcp s t = k)
  | [], _, _, _, _, _, h, _ => by simp at h
  | _ :: _, [], _, _, _, _, _, h => by simp at h
  | a :: s, b :: t, 0, c, d, h, h1, h2 => by
    simp at h1 h2
    subst h1 h2
    unfold lcp
    exact ⟨fun e => by rw [if_pos e]; omega, fun e => if_neg e⟩
  | a :: s, b :: t, k + 1, c, d, h, h1, h2 => by
    simp at h1 h2
    by_cases e : a = b
    · have el : lcp (a :: s) (b :: t) = lcp s t + 1 := if_pos e
      rw [el] at h ⊢
      obtain ⟨i1, i2⟩ := lcp_step s t k c d (by omega) h1 h2
      exact ⟨fun e => by have := i1 e; omega, fun e => by rw [i2 e]⟩
    · have el : lcp (a :: s) (b :: t) = 0 := if_neg e
      rw [el] at h
      omega
theorem ez_get : ∀ (s t : List Nat) (n k : Nat) (x : D), (ezipL n s t)[k]? = some x → ∃ c d, s[k]? = some c ∧ t[k]? = some d ∧ x = .tup [.int (n + k : Nat), .tup [.str [c], .str [d]]]
  | [], _, _, _, _, h => by simp [ezipL] at h
  | _ :: _, [], _, _, _, h => by simp [ezipL] at h
  | a :: s, b :: t, n, 0, x, h => by
    simp [ezipL] at h
    subst h
    exact ⟨a, b, rfl, rfl, rfl⟩
  | a :: s, b :: t, n, k + 1, x, h => by
    simp only [ezipL, List.getElem?_cons_succ] at h
    obtain ⟨c, d, h1, h2, rfl⟩ := ez_get s t (n + 1) k x h
    exact ⟨c, d, by simpa using h1, by simpa using h2, by rw [show n + 1 + k = n + (k + 1) by omega]⟩
theorem ez_len : ∀ (s t : List Nat) (n : Nat), (ezipL n s t).length = min s.length t.length
  | [], _, _ => by simp [ezipL]
  | _ :: _, [], _ => by simp [ezipL]
  | a :: s, b :: t, n => by
    simp only [ezipL, List.length_cons, ez_len s t (n + 1)]
    omega
theorem run_common {s t : List Nat} (hs : s.length ≤ 100000) (ht : t.length ≤ 100000) :
    Rn Fcommon [.str s, .str t] (fun d os => d = .int (lcp s t) ∧ os = [.str s, .str t]) (fun _ _ _ => False) := by
  refine fn_run rfl ?_
  unfold s_common_begin
  have hL := lcp_le s t
  refine x_cons (s_for (i_ez (e_var rfl rfl (e_var rfl rfl ⟨s, t, rfl, rfl, ⟨by unfold lim; omega, by unfold lim; omega⟩, ?_⟩))))
  refine ⟨fun k e => k ≤ lcp s t ∧ ∃ x y z, e = [some (.str s), some (.str t), x, y, z], ⟨Nat.zero_le _, _, _, _, rfl⟩, ?_, ?_⟩
  · rintro k d e hk ⟨hle, x, y, z, rfl⟩
    obtain ⟨c, d', h1, h2, rfl⟩ := ez_get s t 0 k d hk
    obtain ⟨i1, i2⟩ := lcp_step s t k c d' hle h1 h2
    by_cases hcd : c = d'
    · subst hcd
      have := i1 rfl
      repeat' l_ints
      all_goals simp only [decide_true, Bool.not_true, Bool.false_eq_true, if_false]
      all_goals repeat' l_ints
      all_goals first | exact ⟨this, _, _, _, rfl⟩ | skip
    · have := i2 hcd
      have hne : ¬ [c] = [d'] := fun h => hcd (by injection h)
      repeat' l_ints
      all_goals simp only [decide_eq_false hne, Bool.not_false, if_true]
      all_goals repeat' l_ints
      all_goals first | (refine ⟨_, rfl, ?_, rfl⟩; congr 1; omega) | skip
  · rintro e ⟨hle, x, y, z, rfl⟩
    rw [ez_len] at hle
    repeat' l_ints
    all_goals first | (split <;> (refine ⟨_, rfl, ?_, rfl⟩; congr 1; omega)) | (refine ⟨_, rfl, ?_, rfl⟩; congr 1; split <;> omega) | skip
end K60

set_option Elab.async false
set_option linter.all false
set_option maxRecDepth 100000
set_option maxHeartbeats 2000000
namespace K60
open PySem Dz
local macro_rules | `(tactic| l_ints) => `(tactic| first
  | (with_reducible refine x_cons ?_)
  | (with_reducible refine x_nil ?_) | (with_reducible refine i_e ?_) | (with_reducible refine i_r1 ?_) | (with_reducible refine i_r2 ?_) | (with_reducible refine i_ez ?_) | (with_reducible refine c_turn ?_) | (with_reducible refine c_nil ?_) | (with_reducible refine c_one ?_)
  | (with_reducible refine s_asg ?_)
  | (with_reducible refine s_asgT ?_)
  | (with_reducible refine s_par ?_)
  | (with_reducible refine s_if ?_)
  | (with_reducible refine s_raise ?_)
  | (with_reducible refine s_expr ?_)
  | ((with_reducible refine s_ret ?e1 ?k1); (case e1 => exact fun _ => rfl))
  | (with_reducible refine e_cst ?_)
  | (with_reducible refine e_bin ?_)
  | (with_reducible refine e_cmp ?_)
  | (with_reducible refine e_idx ?_)
  | (with_reducible refine e_slc ?_)
  | (with_reducible refine e_rev ?_)
  | (with_reducible refine e_and ?_)
  | (with_reducible refine e_ite ?_)
  | (with_reducible refine e_tup ?_)
  | (with_reducible refine e_lst ?_)
  | (with_reducible refine e_bi ?_)
  | (with_reducible refine e_neg ?_)
  | (with_reducible refine e_meth ?_)
  | (with_reducible refine t_cmp ?_) | (with_reducible refine g_tp ?_) | (with_reducible refine g_cons ?_) | (with_reducible refine g_nil ?_) | ((with_reducible refine' g_nm ?e1 ?e2 ?k1); (case e1 => exact rfl); (case e2 => exact Nat.le_of_ble_eq_true rfl))
  | (with_reducible refine t_and ?_)
  | (with_reducible refine t_or ?_)
  | (with_reducible refine t_not ?_)
  | (with_reducible refine s_nil ?_)
  | (with_reducible refine s_cons ?_)
  | (with_reducible refine o_nil ?_)
  | (with_reducible refine o_cons ?_)
  | (with_reducible refine a_nil ?_)
  | (with_reducible refine a_val ?_)
  | (with_reducible refine p_abs ?_)
  | ((with_reducible refine' e_call (ms := [true, false]) ?e1 ?e2 ?k1); (case e1 => exact rfl); (case e2 => exact rfl)) | ((with_reducible refine' e_call (ms := [false, false]) ?e1 ?e2 ?k1); (case e1 => exact rfl); (case e2 => exact rfl)) | ((with_reducible refine' e_call (ms := [false]) ?e1 ?e2 ?k1); (case e1 => exact rfl); (case e2 => exact rfl))
  | (with_reducible refine ifT ?_) | (with_reducible refine ifF ?_)
  | (with_reducible refine ifd (fun _ => ?_) (fun _ => ?_))
  | ((with_reducible refine' e_var ?e1 ?o1 ?k1); (case e1 => first | exact rfl | exact fun _ => rfl); (case o1 => first | exact rfl | exact fun _ => rfl))
  | ((with_reducible refine' s_retv ?e1 ?o1 ?k1); (case e1 => first | exact rfl | exact fun _ => rfl); (case o1 => first | exact rfl | exact fun _ => rfl))
  | ((with_reducible refine' r_var ?e1 ?k1); (case e1 => first | exact rfl | exact fun _ => rfl))
  | ((with_reducible refine' a_var ?e1 ?k1); (case e1 => first | exact rfl | exact fun _ => rfl))
  | ((with_reducible refine' r_val ?e1 ?k1); (case e1 => first | exact rfl | exact fun _ => rfl))
  | ((with_reducible refine' p_val ?e1 ?k1); (case e1 => first | exact rfl | exact fun _ => rfl))
  | ((with_reducible refine' s_augIx ?e1 ?k1); (case e1 => exact rfl)) | (with_reducible refine s_setIx ?_) | ((with_reducible refine' s_mut ?e1 ?k1); (case e1 => exact rfl)) | ((with_reducible refine' e_varO ?e1 ?e2 ?k1); (case e1 => exact rfl); (case e2 => exact rfl)) | ((with_reducible refine' s_retO ?e1 ?e2 ?k1); (case e1 => exact rfl); (case e2 => exact rfl)) | ((with_reducible refine' s_aug ?e1 ?k1); (case e1 => exact rfl))
  | ((with_reducible refine' ⟨_, _, _, _, ?a1, ?a2, ?a3, ?a4, ?k1⟩); (case a1 => exact rfl); (case a2 => exact rfl); (case a3 => exact rfl); (case a4 => exact rfl))
  | ((with_reducible refine' ⟨_, _, ?a1, ?a2, _, ?a3, ?k1⟩); (case a1 => exact rfl); (case a2 => exact rfl); (case a3 => exact rfl))
  | ((with_reducible refine' ⟨⟨_, ?a1⟩, ?k1⟩); (case a1 => exact rfl))
  | ((with_reducible refine' ⟨_, _, _, ?a1, ?a2, ?a3, ?k1⟩); (case a1 => exact rfl); (case a2 => exact rfl); (case a3 => first | exact rfl | exact pow18 | (refine mulR ?_; decide +kernel) | (refine mulL ?_; decide +kernel) | (refine mulR ?_; exact small_mod) | (refine modV ?_ <;> omega) | (refine fdivV ?_ ?_ <;> omega) | (refine addS ?_; simp only [List.length_append, List.length_take, List.length_drop]; omega)))
  | ((with_reducible refine' ⟨_, _, ?a1, ?a2, ?k1⟩); (case a1 => exact rfl); (case a2 => first | exact rfl | (refine lenS ?_ <;> omega) | (refine slcTo ?_ ?_ <;> omega) | (refine slcFrom ?_ ?_ <;> omega) | (refine slcMid ?_ ?_ ?_ <;> omega) | (refine slcLTo ?_ <;> omega) | (refine slcLFrom ?_ <;> omega)))
  | ((with_reducible refine' ⟨_, ?a1, ?k1⟩); (case a1 => exact rfl))
  | ((with_reducible refine ⟨?a1, ?a2, ?k1⟩); (case a1 => exact rfl); (case a2 => exact Nat.le_of_ble_eq_true rfl))
  | ((with_reducible refine' ⟨?a1, ?k1⟩); (case a1 => first | exact rfl | exact Nat.le_of_ble_eq_true rfl))
  | fail "no step")

/-- the same end of two texts beyond what begins alike -/
def lcs (s t : List Nat) : Nat := lcp (s.drop (lcp s t)).reverse (t.drop (lcp s t)).reverse
theorem lcs_le (s t : List Nat) : lcs s t ≤ s.length - lcp s t ∧ lcs s t ≤ t.length - lcp s t := by
  have h := lcp_le (s.drop (lcp s t)).reverse (t.drop (lcp s t)).reverse
  simp only [List.length_reverse, List.length_drop] at h
  exact h
/-- the change between two texts -/
def btw (s t : List Nat) : Ch := (lcp s t, (s.length : Int) - lcs s t, (t.drop (lcp s t)).take (t.length - lcs s t - lcp s t))
theorem subI {i j : Int} : binD .sub (.int i) (.int j) = some (.int (i - j)) := rfl
theorem run_between {s t : List Nat} (hs : s.length ≤ 100000) (ht : t.length ≤ 100000) :
    Rn Fbetween [.str s, .str t] (fun d os => d = chD (btw s t) ∧ os = [.str s, .str t]) (fun _ _ _ => False) := by
  refine fn_run rfl ?_
  unfold s_change_between
  have h1 := lcp_le s t
  have h2 := lcs_le s t
  repeat' l_ints
  refine ⟨by simp [places], _, rfl, Rn.imp (run_common hs ht) ?_ fun _ _ _ z => z.elim⟩
  rintro v os ⟨rfl, rfl⟩
  refine ⟨_, rfl, ?_⟩
  repeat' l_ints
  refine ⟨_, .str (s.drop (lcp s t)).reverse, rfl, ?_, ?_⟩
  · first | rfl | exact if_pos (by simp only [List.length_drop]; unfold lim; omega)
  repeat' l_ints
  refine ⟨_, .str (t.drop (lcp s t)).reverse, rfl, ?_, ?_⟩
  · first | rfl | exact if_pos (by simp only [List.length_drop]; unfold lim; omega)
  repeat' l_ints
  refine ⟨by simp [places], _, rfl, Rn.imp (run_common (by simp only [List.length_reverse, List.length_drop]; omega) (by simp only [List.length_reverse, List.length_drop]; omega)) ?_ fun _ _ _ z => z.elim⟩
  rintro v os ⟨rfl, rfl⟩
  refine ⟨_, rfl, ?_⟩
  repeat' l_ints
  have h3 : lcp (s.drop (lcp s t)).reverse (t.drop (lcp s t)).reverse = lcs s t := rfl
  rw [h3]
  refine ⟨_, _, rfl, slcMid (by omega) (by omega) (by omega), ?_⟩
  repeat' l_ints
  have h4 : (((t.length : Int) - (lcs s t : Int)).toNat - ((lcp s t : Int)).toNat) = t.length - lcs s t - lcp s t := by omega
  refine ⟨_, rfl, ?_, rfl⟩
  show D.tup [_, _, .str ((t.drop _).take (((t.length : Int) - (lcs s t : Int)).toNat - ((lcp s t : Int)).toNat))] = _
  rw [h4]
  rfl
end K60

set_option Elab.async false
set_option linter.all false
set_option maxRecDepth 100000
set_option maxHeartbeats 2000000
namespace K60
open PySem Dz
local macro_rules | `(tactic| l_ints) => `(tactic| first
  | (with_reducible refine x_cons ?_)
  | (with_reducible refine x_nil ?_) | (with_reducible refine i_e ?_) | (with_reducible refine i_r1 ?_) | (with_reducible refine i_r2 ?_) | (with_reducible refine i_ez ?_) | (with_reducible refine c_turn ?_) | (with_reducible refine c_nil ?_) | (with_reducible refine c_one ?_)
  | (with_reducible refine s_asg ?_)
  | (with_reducible refine s_asgT ?_)
  | (with_reducible refine s_par ?_)
  | (with_reducible refine s_if ?_)
  | (with_reducible refine s_raise ?_)
  | (with_reducible refine s_expr ?_)
  | ((with_reducible refine s_ret ?e1 ?k1); (case e1 => exact fun _ => rfl))
  | (with_reducible refine e_cst ?_)
  | (with_reducible refine e_bin ?_)
  | (with_reducible refine e_cmp ?_)
  | (with_reducible refine e_idx ?_)
  | (with_reducible refine e_slc ?_)
  | (with_reducible refine e_rev ?_)
  | (with_reducible refine e_and ?_)
  | (with_reducible refine e_ite ?_)
  | (with_reducible refine e_tup ?_)
  | (with_reducible refine e_lst ?_)
  | (with_reducible refine e_bi ?_)
  | (with_reducible refine e_neg ?_)
  | (with_reducible refine e_meth ?_)
  | (with_reducible refine t_cmp ?_) | (with_reducible refine g_tp ?_) | (with_reducible refine g_cons ?_) | (with_reducible refine g_nil ?_) | ((with_reducible refine' g_nm ?e1 ?e2 ?k1); (case e1 => exact rfl); (case e2 => exact Nat.le_of_ble_eq_true rfl))
  | (with_reducible refine t_and ?_)
  | (with_reducible refine t_or ?_)
  | (with_reducible refine t_not ?_)
  | (with_reducible refine s_nil ?_)
  | (with_reducible refine s_cons ?_)
  | (with_reducible refine o_nil ?_)
  | (with_reducible refine o_cons ?_)
  | (with_reducible refine a_nil ?_)
  | (with_reducible refine a_val ?_)
  | (with_reducible refine p_abs ?_)
  | ((with_reducible refine' e_call (ms := [true, false]) ?e1 ?e2 ?k1); (case e1 => exact rfl); (case e2 => exact rfl)) | ((with_reducible refine' e_call (ms := [false, false]) ?e1 ?e2 ?k1); (case e1 => exact rfl); (case e2 => exact rfl)) | ((with_reducible refine' e_call (ms := [false]) ?e1 ?e2 ?k1); (case e1 => exact rfl); (case e2 => exact rfl))
  | (with_reducible refine ifT ?_) | (with_reducible refine ifF ?_)
  | (with_reducible refine ifd (fun _ => ?_) (fun _ => ?_))
  | ((with_reducible refine' e_var ?e1 ?o1 ?k1); (case e1 => first | exact rfl | exact fun _ => rfl); (case o1 => first | exact rfl | exact fun _ => rfl))
  | ((with_reducible refine' s_retv ?e1 ?o1 ?k1); (case e1 => first | exact rfl | exact fun _ => rfl); (case o1 => first | exact rfl | exact fun _ => rfl))
  | ((with_reducible refine' r_var ?e1 ?k1); (case e1 => first | exact rfl | exact fun _ => rfl))
  | ((with_reducible refine' a_var ?e1 ?k1); (case e1 => first | exact rfl | exact fun _ => rfl))
  | ((with_reducible refine' r_val ?e1 ?k1); (case e1 => first | exact rfl | exact fun _ => rfl))
  | ((with_reducible refine' p_val ?e1 ?k1); (case e1 => first | exact rfl | exact fun _ => rfl))
  | ((with_reducible refine' s_augIx ?e1 ?k1); (case e1 => exact rfl)) | (with_reducible refine s_setIx ?_) | ((with_reducible refine' s_mut ?e1 ?k1); (case e1 => exact rfl)) | ((with_reducible refine' e_varO ?e1 ?e2 ?k1); (case e1 => exact rfl); (case e2 => exact rfl)) | ((with_reducible refine' s_retO ?e1 ?e2 ?k1); (case e1 => exact rfl); (case e2 => exact rfl)) | ((with_reducible refine' s_aug ?e1 ?k1); (case e1 => exact rfl))
  | ((with_reducible refine' ⟨_, _, _, _, ?a1, ?a2, ?a3, ?a4, ?k1⟩); (case a1 => exact rfl); (case a2 => exact rfl); (case a3 => exact rfl); (case a4 => exact rfl))
  | ((with_reducible refine' ⟨_, _, ?a1, ?a2, _, ?a3, ?k1⟩); (case a1 => exact rfl); (case a2 => exact rfl); (case a3 => exact rfl))
  | ((with_reducible refine' ⟨⟨_, ?a1⟩, ?k1⟩); (case a1 => exact rfl))
  | ((with_reducible refine' ⟨_, _, _, ?a1, ?a2, ?a3, ?k1⟩); (case a1 => exact rfl); (case a2 => exact rfl); (case a3 => first | exact rfl | exact pow18 | (refine mulR ?_; decide +kernel) | (refine mulL ?_; decide +kernel) | (refine mulR ?_; exact small_mod) | (refine modV ?_ <;> omega) | (refine fdivV ?_ ?_ <;> omega) | (refine addS ?_; simp only [List.length_append, List.length_take, List.length_drop]; omega)))
  | ((with_reducible refine' ⟨_, _, ?a1, ?a2, ?k1⟩); (case a1 => exact rfl); (case a2 => first | exact rfl | (refine lenS ?_ <;> omega) | (refine slcTo ?_ ?_ <;> omega) | (refine slcFrom ?_ ?_ <;> omega) | (refine slcMid ?_ ?_ ?_ <;> omega) | (refine slcLTo ?_ <;> omega) | (refine slcLFrom ?_ <;> omega)))
  | ((with_reducible refine' ⟨_, ?a1, ?k1⟩); (case a1 => exact rfl))
  | ((with_reducible refine ⟨?a1, ?a2, ?k1⟩); (case a1 => exact rfl); (case a2 => exact Nat.le_of_ble_eq_true rfl))
  | ((with_reducible refine' ⟨?a1, ?k1⟩); (case a1 => first | exact rfl | exact Nat.le_of_ble_eq_true rfl))
  | fail "no step")

theorem idxS {s : List Nat} {i : Nat} {j : Int} {c : Nat} (hl : s.length ≤ 16777216) (hj : j = i) (h : s[i]? = some c) : idxD (.str s) (.int j) = some (.str [c]) := by
  subst hj
  have hi : i < s.length := by
    rcases Nat.lt_or_ge i s.length with h2 | h2
    · exact h2
    · rw [List.getElem?_eq_none h2] at h; cases h
  have h2 : L2.atI s (i : Int) = some c := by
    unfold L2.atI L2.ixN
    rw [if_pos (by omega), if_pos (by omega)]
    show s[(i : Int).toNat]? = _
    rw [Int.toNat_natCast, h]
  exact (if_pos (show s.length ≤ lim from hl)).trans (by rw [h2]; rfl)
theorem lcp_more : ∀ (s t : List Nat) (k : Nat), k ≤ lcp s t → k < s.length → k < t.length → ∃ c d, s[k]? = some c ∧ t[k]? = some d := by
  intro s t k _ h1 h2
  exact ⟨_, _, List.getElem?_eq_getElem h1, List.getElem?_eq_getElem h2⟩
theorem rev_get {s : List Nat} {b j i : Nat} (h : i + j + 1 = s.length) (hb : b ≤ i) : (s.drop b).reverse[j]? = s[i]? := by
  rw [List.getElem?_reverse (by rw [List.length_drop]; omega), List.getElem?_drop]
  congr 1
  rw [List.length_drop]
  omega
theorem lcs_step {s t : List Nat} {j i i2 c d : Nat} (hj : j ≤ lcs s t) (h : i + j + 1 = s.length) (h2 : i2 + j + 1 = t.length) (hb : lcp s t ≤ i) (hb2 : lcp s t ≤ i2)
    (q1 : s[i]? = some c) (q2 : t[i2]? = some d) : (c = d → j + 1 ≤ lcs s t) ∧ (c ≠ d → lcs s t = j) :=
  lcp_step _ _ j c d hj (by rw [rev_get h hb, q1]) (by rw [rev_get h2 hb2, q2])
theorem run_cb2 {s t : List Nat} (hs : s.length < 190) (ht : t.length < 100000) :
    Rn Fcb2 [.str s, .str t] (fun d os => d = chD (btw s t) ∧ os = [.str s, .str t]) (fun _ _ _ => False) := by
  refine fn_run rfl ?_
  unfold s_law_change_between
  have h1 := lcp_le s t
  have h2 := lcs_le s t
  refine x_cons (s_asg ?_)
  repeat' l_ints
  refine Xo.imp (Q := fun o => o = .nx [some (.str s), some (.str t), some (.int (lcp s t)), none]) ?_ ?_
  · show X1 _ _ _ _
    refine s_while (fun m e => ∃ k, k ≤ lcp s t ∧ m + k = s.length ∧ e = [some (.str s), some (.str t), some (.int k), none]) s.length ?_ ⟨0, Nat.zero_le _, rfl, rfl⟩ ?_
    · show s.length < 200
      omega
    rintro m e ⟨k, hk, hm, rfl⟩
    repeat' l_ints
    · obtain ⟨c, d, q1, q2⟩ := lcp_more s t k hk (by omega) (by omega)
      obtain ⟨i1, i2⟩ := lcp_step s t k c d hk q1 q2
      refine ⟨_, _, _, rfl, rfl, idxS (by omega) rfl q1, ?_⟩
      repeat' l_ints
      refine ⟨_, _, _, rfl, rfl, idxS (by omega) rfl q2, ?_⟩
      repeat' l_ints
      · rename_i z
        have z1 := i1 (by injection z)
        refine ⟨m - 1, by omega, ?_⟩
        refine x_cons (s_aug rfl ?_)
        repeat' l_ints
        exact ⟨k + 1, z1, by omega, rfl⟩
      · rename_i z
        rw [i2 (fun z2 => z (by rw [z2]))]
    · have : lcp s t = k := by omega
      rw [this]
    · have : lcp s t = k := by omega
      rw [this]
  · rintro o rfl
    repeat' l_ints
    refine Xo.imp (Q := fun o => o = .nx [some (.str s), some (.str t), some (.int (lcp s t)), some (.int ((s.length : Int) - (lcs s t : Nat)))]) ?_ ?_
    · show X1 _ _ _ _
      refine s_while (fun m e => ∃ j : Nat, j ≤ lcs s t ∧ m + j = s.length ∧ e = [some (.str s), some (.str t), some (.int (lcp s t)), some (.int ((s.length : Int) - (j : Nat)))]) s.length ?_ ⟨0, Nat.zero_le _, rfl, ?_⟩ ?_
      · show s.length < 200
        omega
      · show _ = [some (D.str s), some (D.str t), some (.int (lcp s t)), some (.int ((s.length : Int) - (0 : Nat)))]
        rw [show ((s.length : Int) - (0 : Nat)) = s.length by omega]
        rfl
      rintro m e ⟨j, hj, hm, rfl⟩
      repeat' l_ints
      · obtain ⟨c, q1⟩ : ∃ c, s[s.length - j - 1]? = some c := ⟨_, List.getElem?_eq_getElem (by omega)⟩
        obtain ⟨d, q2⟩ : ∃ c, t[t.length - j - 1]? = some c := ⟨_, List.getElem?_eq_getElem (by omega)⟩
        obtain ⟨i1, i2⟩ := lcs_step hj (by omega) (by omega) (by omega) (by omega) q1 q2
        refine ⟨_, _, _, rfl, rfl, idxS (by omega) (by omega) q1, ?_⟩
        repeat' l_ints
        refine ⟨_, _, _, rfl, rfl, idxS (by omega) (by omega) q2, ?_⟩
        repeat' l_ints
        · rename_i z
          have z1 := i1 (by injection z)
          refine ⟨m - 1, by omega, ?_⟩
          refine x_cons (s_aug rfl ?_)
          repeat' l_ints
          refine ⟨j + 1, z1, by omega, ?_⟩
          show [some (D.str s), some (D.str t), some (.int (lcp s t)), some (.int ((s.length : Int) - j - 1))] = _
          rw [show ((s.length : Int) - j - 1) = (s.length : Int) - (j + 1 : Nat) by omega]
        · rename_i z
          rw [i2 (fun z2 => z (by rw [z2]))]
      · rw [show lcs s t = j by omega]
      · rw [show lcs s t = j by omega]
    · rintro o rfl
      repeat' l_ints
      refine ⟨_, rfl, ?_, rfl⟩
      show D.tup [_, _, .str ((t.drop _).take (((t.length : Int) - ((s.length : Int) - ((s.length : Int) - (lcs s t : Nat)))).toNat - ((lcp s t : Int)).toNat))] = _
      rw [show (((t.length : Int) - ((s.length : Int) - ((s.length : Int) - (lcs s t : Nat)))).toNat - ((lcp s t : Int)).toNat) = t.length - lcs s t - lcp s t by omega]
      rfl
end K60

set_option Elab.async false
set_option linter.all false
set_option maxRecDepth 100000
set_option maxHeartbeats 2000000
namespace K60
open PySem Dz
local macro_rules | `(tactic| l_ints) => `(tactic| first
  | (with_reducible refine x_cons ?_)
  | (with_reducible refine x_nil ?_) | (with_reducible refine i_e ?_) | (with_reducible refine i_r1 ?_) | (with_reducible refine i_r2 ?_) | (with_reducible refine i_ez ?_) | (with_reducible refine c_turn ?_) | (with_reducible refine c_nil ?_) | (with_reducible refine c_one ?_)
  | (with_reducible refine s_asg ?_)
  | (with_reducible refine s_asgT ?_)
  | (with_reducible refine s_par ?_)
  | (with_reducible refine s_if ?_)
  | (with_reducible refine s_raise ?_)
  | (with_reducible refine s_expr ?_)
  | ((with_reducible refine s_ret ?e1 ?k1); (case e1 => exact fun _ => rfl))
  | (with_reducible refine e_cst ?_)
  | (with_reducible refine e_bin ?_)
  | (with_reducible refine e_cmp ?_)
  | (with_reducible refine e_idx ?_)
  | (with_reducible refine e_slc ?_)
  | (with_reducible refine e_rev ?_)
  | (with_reducible refine e_and ?_)
  | (with_reducible refine e_ite ?_)
  | (with_reducible refine e_tup ?_)
  | (with_reducible refine e_lst ?_)
  | (with_reducible refine e_bi ?_)
  | (with_reducible refine e_neg ?_)
  | (with_reducible refine e_meth ?_)
  | (with_reducible refine t_cmp ?_) | (with_reducible refine g_tp ?_) | (with_reducible refine g_cons ?_) | (with_reducible refine g_nil ?_) | ((with_reducible refine' g_nm ?e1 ?e2 ?k1); (case e1 => exact rfl); (case e2 => exact Nat.le_of_ble_eq_true rfl))
  | (with_reducible refine t_and ?_)
  | (with_reducible refine t_or ?_)
  | (with_reducible refine t_not ?_)
  | (with_reducible refine s_nil ?_)
  | (with_reducible refine s_cons ?_)
  | (with_reducible refine o_nil ?_)
  | (with_reducible refine o_cons ?_)
  | (with_reducible refine a_nil ?_)
  | (with_reducible refine a_val ?_)
  | (with_reducible refine p_abs ?_)
  | ((with_reducible refine' e_call (ms := [true, false]) ?e1 ?e2 ?k1); (case e1 => exact rfl); (case e2 => exact rfl)) | ((with_reducible refine' e_call (ms := [false, false]) ?e1 ?e2 ?k1); (case e1 => exact rfl); (case e2 => exact rfl)) | ((with_reducible refine' e_call (ms := [false]) ?e1 ?e2 ?k1); (case e1 => exact rfl); (case e2 => exact rfl))
  | (with_reducible refine ifT ?_) | (with_reducible refine ifF ?_)
  | (with_reducible refine ifd (fun _ => ?_) (fun _ => ?_))
  | ((with_reducible refine' e_var ?e1 ?o1 ?k1); (case e1 => first | exact rfl | exact fun _ => rfl); (case o1 => first | exact rfl | exact fun _ => rfl))
  | ((with_reducible refine' s_retv ?e1 ?o1 ?k1); (case e1 => first | exact rfl | exact fun _ => rfl); (case o1 => first | exact rfl | exact fun _ => rfl))
  | ((with_reducible refine' r_var ?e1 ?k1); (case e1 => first | exact rfl | exact fun _ => rfl))
  | ((with_reducible refine' a_var ?e1 ?k1); (case e1 => first | exact rfl | exact fun _ => rfl))
  | ((with_reducible refine' r_val ?e1 ?k1); (case e1 => first | exact rfl | exact fun _ => rfl))
  | ((with_reducible refine' p_val ?e1 ?k1); (case e1 => first | exact rfl | exact fun _ => rfl))
  | ((with_reducible refine' s_augIx ?e1 ?k1); (case e1 => exact rfl)) | (with_reducible refine s_setIx ?_) | ((with_reducible refine' s_mut ?e1 ?k1); (case e1 => exact rfl)) | ((with_reducible refine' e_varO ?e1 ?e2 ?k1); (case e1 => exact rfl); (case e2 => exact rfl)) | ((with_reducible refine' s_retO ?e1 ?e2 ?k1); (case e1 => exact rfl); (case e2 => exact rfl)) | ((with_reducible refine' s_aug ?e1 ?k1); (case e1 => exact rfl))
  | ((with_reducible refine' ⟨_, _, _, _, ?a1, ?a2, ?a3, ?a4, ?k1⟩); (case a1 => exact rfl); (case a2 => exact rfl); (case a3 => exact rfl); (case a4 => exact rfl))
  | ((with_reducible refine' ⟨_, _, ?a1, ?a2, _, ?a3, ?k1⟩); (case a1 => exact rfl); (case a2 => exact rfl); (case a3 => exact rfl))
  | ((with_reducible refine' ⟨⟨_, ?a1⟩, ?k1⟩); (case a1 => exact rfl))
  | ((with_reducible refine' ⟨_, _, _, ?a1, ?a2, ?a3, ?k1⟩); (case a1 => exact rfl); (case a2 => exact rfl); (case a3 => first | exact rfl | exact pow18 | (refine mulR ?_; decide +kernel) | (refine mulL ?_; decide +kernel) | (refine mulR ?_; exact small_mod) | (refine modV ?_ <;> omega) | (refine fdivV ?_ ?_ <;> omega) | (refine addS ?_; simp only [List.length_append, List.length_take, List.length_drop]; omega)))
  | ((with_reducible refine' ⟨_, _, ?a1, ?a2, ?k1⟩); (case a1 => exact rfl); (case a2 => first | exact rfl | (refine lenS ?_ <;> omega) | (refine slcTo ?_ ?_ <;> omega) | (refine slcFrom ?_ ?_ <;> omega) | (refine slcMid ?_ ?_ ?_ <;> omega) | (refine slcLTo ?_ <;> omega) | (refine slcLFrom ?_ <;> omega)))
  | ((with_reducible refine' ⟨_, ?a1, ?k1⟩); (case a1 => exact rfl))
  | ((with_reducible refine ⟨?a1, ?a2, ?k1⟩); (case a1 => exact rfl); (case a2 => exact Nat.le_of_ble_eq_true rfl))
  | ((with_reducible refine' ⟨?a1, ?k1⟩); (case a1 => first | exact rfl | exact Nat.le_of_ble_eq_true rfl))
  | fail "no step")

def Fall : Fn := fnD (Sg [] [] 0 [false, false]) [false, false] N_law_all_between.length s_law_all_between
def pr (b e : Nat) : D := .tup [.int b, .int e]
/-- a begin and an end between which alone two texts differ -/
def BP (s t : List Nat) (b e : Nat) : Prop := b ≤ e ∧ e ≤ s.length ∧ 0 ≤ ((t.length : Int) - b - ((s.length : Int) - e)) ∧ s.take b = t.take b ∧ s.drop e = t.drop ((b : Int) + ((t.length : Int) - b - ((s.length : Int) - e))).toNat
def Fnd (s t : List Nat) (L : List D) (R : Nat → Nat → Prop) : Prop := (∀ d ∈ L, ∃ b e, d = pr b e ∧ BP s t b e) ∧ ∀ b e, BP s t b e → R b e → pr b e ∈ L
theorem range_get {f : Nat → D} {n k : Nat} {d : D} (h : ((List.range n).map f)[k]? = some d) : k < n ∧ d = f k := by
  rcases Nat.lt_or_ge k n with h2 | h2
  · rw [List.getElem?_map, List.getElem?_range h2] at h
    exact ⟨h2, by injection h with h; exact h.symm⟩
  · rw [List.getElem?_eq_none (by simp only [List.length_map, List.length_range]; exact h2)] at h
    cases h
theorem run_all {s t : List Nat} (hs : s.length < 190) (ht : t.length < 190) :
    Rn Fall [.str s, .str t] (fun d os => ∃ L, d = .own (.lst L) ∧ Fnd s t L (fun _ _ => True) ∧ L.length ≤ 40000 ∧ os = [.str s, .str t]) (fun _ _ _ => False) := by
  refine fn_run rfl ?_
  unfold s_law_all_between
  refine x_cons (s_asg ?_)
  repeat' l_ints
  · exact Nat.zero_le _
  refine s_for ?_
  repeat' l_ints
  refine ⟨by omega, fun k e => ∃ L x y z, e = [some (.str s), some (.str t), some (.own (.lst L)), x, y, z] ∧ L.length ≤ 200 * k ∧ Fnd s t L (fun b _ => b < k), ⟨[], _, _, _, rfl, Nat.zero_le _, ?_⟩, ?_, ?_⟩
  · exact ⟨fun d h => (List.not_mem_nil h).elim, fun b e _ h => absurd h (Nat.not_lt_zero _)⟩
  · rintro k d e hk ⟨L, x, y, z, rfl, hl, hf⟩
    obtain ⟨hk2, rfl⟩ := range_get hk
    repeat' l_ints
    refine Xo.imp (Q := fun o => ∃ L y z, o = .nx [some (.str s), some (.str t), some (.own (.lst L)), some (.int k), y, z] ∧ L.length ≤ 200 * (k + 1) ∧ Fnd s t L (fun b e => b < k + 1)) ?_ ?_
    · show X1 _ _ _ _
      refine s_for ?_
      repeat' l_ints
      refine ⟨by omega, fun j e => ∃ L y z, e = [some (.str s), some (.str t), some (.own (.lst L)), some (.int k), y, z] ∧ L.length ≤ 200 * k + j ∧ Fnd s t L (fun b e => b < k ∨ (b = k ∧ e < k + j)), ⟨L, _, _, rfl, hl, hf.1, fun b e h1 h2 => hf.2 b e h1 (h2.elim id fun h => absurd h.2 (by have := h1.1; omega))⟩, ?_, ?_⟩
      · rintro j d e hj ⟨L, y, z, rfl, hl, hf⟩
        obtain ⟨hj2, rfl⟩ := range_get hj
        repeat' l_ints
        · have hx : L.length < lim := by unfold lim; omega
          refine ⟨_, _, _, rfl, if_pos hx, ?_⟩
          repeat' l_ints
          refine ⟨L ++ [pr k (k + j)], _, _, rfl, by simp only [List.length_append, List.length_cons, List.length_nil]; omega, ?_, ?_⟩
          · intro d hd
            rcases List.mem_append.mp hd with hd | hd
            · exact hf.1 d hd
            · rw [List.mem_singleton] at hd
              subst hd
              refine ⟨k, k + j, rfl, by omega, by omega, ?_, ?_, ?_⟩
              · assumption
              · assumption
              · assumption
          · intro b e h1 h2
            by_cases q : b = k ∧ e = k + j
            · obtain ⟨rfl, rfl⟩ := q
              exact List.mem_append.mpr (.inr (List.mem_singleton.mpr rfl))
            · exact List.mem_append.mpr (.inl (hf.2 b e h1 (by omega)))
        all_goals refine ⟨L, _, _, rfl, by omega, hf.1, fun b e h1 h2 => ?_⟩
        all_goals by_cases q : b = k ∧ e = k + j
        all_goals first
          | exact hf.2 b e h1 (by omega)
          | (obtain ⟨rfl, rfl⟩ := q; obtain ⟨_, _, g1, g2, g3⟩ := h1; first | exact absurd g3 (by assumption) | exact absurd g2 (by assumption) | exact absurd g1 (by assumption) | skip)
      · rintro e ⟨L, y, z, rfl, hl, hf⟩
        simp only [List.length_map, List.length_range] at hl hf
        refine ⟨L, _, _, rfl, by omega, hf.1, fun b e h1 h2 => hf.2 b e h1 ?_⟩
        have := h1.2.1
        omega
    · rintro o ⟨L, y, z, rfl, hl, hf⟩
      repeat' l_ints
      exact ⟨L, _, _, _, rfl, hl, hf⟩
  · rintro e ⟨L, x, y, z, rfl, hl, hf⟩
    simp only [List.length_map, List.length_range] at hl hf
    repeat' l_ints
    refine ⟨_, rfl, L, rfl, ⟨hf.1, fun b e h1 _ => hf.2 b e h1 ?_⟩, by omega, rfl⟩
    have := h1.2.1
    have := h1.1
    omega
end K60

set_option Elab.async false
set_option linter.all false
namespace K60
open PySem Dz
theorem lcp_take : ∀ s t : List Nat, s.take (lcp s t) = t.take (lcp s t)
  | [], t => by unfold lcp; simp
  | _ :: _, [] => by unfold lcp; simp
  | a :: s, b :: t => by
    unfold lcp
    split
    · rename_i h
      rw [List.take_succ_cons, List.take_succ_cons, lcp_take s t, h]
    · rfl
theorem lcp_of : ∀ (s t : List Nat) (b : Nat), b ≤ s.length → b ≤ t.length → s.take b = t.take b → b ≤ lcp s t
  | [], _, b, h, _, _ => by simp at h; omega
  | _ :: _, [], b, _, h, _ => by simp at h; omega
  | _ :: _, _ :: _, 0, _, _, _ => Nat.zero_le _
  | a :: s, c :: t, b + 1, h1, h2, h => by
    rw [List.take_succ_cons, List.take_succ_cons] at h
    injection h with h3 h4
    have := lcp_of s t b (by simp at h1; omega) (by simp at h2; omega) h4
    unfold lcp
    rw [if_pos h3]
    omega
/-- the begin of what ends alike -/
theorem lcs_drop (s t : List Nat) : s.drop (s.length - lcs s t) = t.drop (t.length - lcs s t) := by
  have h1 := lcp_le s t
  have h2 := lcs_le s t
  have h := lcp_take (s.drop (lcp s t)).reverse (t.drop (lcp s t)).reverse
  change (s.drop (lcp s t)).reverse.take (lcs s t) = (t.drop (lcp s t)).reverse.take (lcs s t) at h
  rw [List.take_reverse, List.take_reverse] at h
  have h := List.reverse_inj.mp h
  rw [List.drop_drop, List.drop_drop, List.length_drop, List.length_drop] at h
  rw [show s.length - lcs s t = lcp s t + (s.length - lcp s t - lcs s t) by omega, show t.length - lcs s t = lcp s t + (t.length - lcp s t - lcs s t) by omega]
  exact h
theorem lcs_of {s t : List Nat} {j : Nat} (h1 : lcp s t + j ≤ s.length) (h2 : lcp s t + j ≤ t.length) (h : s.drop (s.length - j) = t.drop (t.length - j)) : j ≤ lcs s t := by
  refine lcp_of _ _ j (by simp only [List.length_reverse, List.length_drop]; omega) (by simp only [List.length_reverse, List.length_drop]; omega) ?_
  rw [List.take_reverse, List.take_reverse, List.drop_drop, List.drop_drop, List.length_drop, List.length_drop]
  rw [show lcp s t + (s.length - lcp s t - j) = s.length - j by omega, show lcp s t + (t.length - lcp s t - j) = t.length - j by omega, h]
theorem bp_begin {s t : List Nat} {b e : Nat} (h : BP s t b e) : b ≤ lcp s t := by
  obtain ⟨h1, h2, h3, h4, h5⟩ := h
  exact lcp_of s t b (by omega) (by omega) h4
theorem bp_best (s t : List Nat) : BP s t (lcp s t) (s.length - lcs s t) := by
  have h1 := lcp_le s t
  have h2 := lcs_le s t
  refine ⟨by omega, by omega, by omega, lcp_take s t, ?_⟩
  rw [lcs_drop]
  congr 1
  omega
theorem bp_end {s t : List Nat} {e : Nat} (h : BP s t (lcp s t) e) : s.length - lcs s t ≤ e := by
  obtain ⟨h1, h2, h3, h4, h5⟩ := h
  have h6 := lcp_le s t
  have := lcs_of (s := s) (t := t) (j := s.length - e) (by omega) (by omega) (by
    rw [show s.length - (s.length - e) = e by omega, h5]
    congr 1
    omega)
  omega
theorem chg_btw (s t : List Nat) : chg s (btw s t) = t := by
  have h1 := lcp_le s t
  have h2 := lcs_le s t
  unfold chg btw
  show s.take ((lcp s t : Nat) : Int).toNat ++ _ ++ s.drop ((s.length : Int) - (lcs s t : Nat)).toNat = t
  rw [Int.toNat_natCast, show ((s.length : Int) - (lcs s t : Nat)).toNat = s.length - lcs s t by omega, lcs_drop, lcp_take]
  rw [show t.drop (t.length - lcs s t) = (t.drop (lcp s t)).drop (t.length - lcs s t - lcp s t) by rw [List.drop_drop]; congr 1; omega]
  rw [List.append_assoc, List.take_append_drop, List.take_append_drop]
end K60

set_option Elab.async false
set_option linter.all false
namespace K60
open PySem Dz
/-- a change taken back -/
theorem chg_back {t s : List Nat} {b e : Int} (h1 : 0 ≤ b) (h2 : b ≤ e) (h3 : e ≤ t.length) :
    chg (chg t (b, e, s)) (b, b + s.length, (t.drop b.toNat).take (e.toNat - b.toNat)) = t := by
  have l1 : (t.take b.toNat).length = b.toNat := by rw [List.length_take]; omega
  have l2 : (t.take b.toNat ++ s).length = b.toNat + s.length := by rw [List.length_append, l1]
  unfold chg
  show (t.take b.toNat ++ s ++ t.drop e.toNat).take b.toNat ++ (t.drop b.toNat).take (e.toNat - b.toNat) ++ (t.take b.toNat ++ s ++ t.drop e.toNat).drop (b + s.length).toNat = t
  rw [show (b + s.length).toNat = (t.take b.toNat ++ s).length by rw [l2]; omega, List.drop_left]
  rw [List.append_assoc (t.take b.toNat) s, List.take_left' l1]
  rw [show t.drop e.toNat = (t.drop b.toNat).drop (e.toNat - b.toNat) by rw [List.drop_drop]; congr 1; omega]
  rw [List.append_assoc, List.take_append_drop, List.take_append_drop]
end K60

set_option Elab.async false
set_option linter.all false
set_option maxRecDepth 100000
set_option maxHeartbeats 2000000
namespace K60
open PySem Dz
theorem ifdR {p : Prop} [Decidable p] {A B : Prop} (h : p) (k : A) : if decide p = true then A else B := by rw [decide_eq_true h, if_pos rfl]; exact k
theorem ifdN {p : Prop} [Decidable p] {A B : Prop} (h : ¬ p) (k : B) : if decide p = true then A else B := by rw [decide_eq_false h, if_neg (by decide)]; exact k
theorem lneq {a b : List Nat} (h : (a == b) = false) : ¬ a = b := by intro e; subst e; simp at h
local macro_rules | `(tactic| l_ints) => `(tactic| first
  | (with_reducible refine x_cons ?_)
  | (with_reducible refine x_nil ?_) | (with_reducible refine i_e ?_) | (with_reducible refine i_r1 ?_) | (with_reducible refine i_r2 ?_) | (with_reducible refine i_ez ?_) | (with_reducible refine c_turn ?_) | (with_reducible refine c_nil ?_) | (with_reducible refine c_one ?_)
  | (with_reducible refine s_asg ?_)
  | (with_reducible refine s_asgT ?_)
  | (with_reducible refine s_par ?_)
  | (with_reducible refine s_if ?_)
  | (with_reducible refine s_raise ?_)
  | (with_reducible refine s_expr ?_)
  | ((with_reducible refine s_ret ?e1 ?k1); (case e1 => exact fun _ => rfl))
  | (with_reducible refine e_cst ?_)
  | (with_reducible refine e_bin ?_)
  | (with_reducible refine e_cmp ?_)
  | (with_reducible refine e_idx ?_)
  | (with_reducible refine e_slc ?_)
  | (with_reducible refine e_rev ?_)
  | (with_reducible refine e_and ?_)
  | (with_reducible refine e_ite ?_)
  | (with_reducible refine e_tup ?_)
  | (with_reducible refine e_lst ?_)
  | (with_reducible refine e_bi ?_)
  | (with_reducible refine e_neg ?_)
  | (with_reducible refine e_meth ?_)
  | (with_reducible refine t_cmp ?_) | (with_reducible refine g_tp ?_) | (with_reducible refine g_cons ?_) | (with_reducible refine g_nil ?_) | ((with_reducible refine' g_nm ?e1 ?e2 ?k1); (case e1 => exact rfl); (case e2 => exact Nat.le_of_ble_eq_true rfl))
  | (with_reducible refine t_and ?_)
  | (with_reducible refine t_or ?_)
  | (with_reducible refine t_not ?_)
  | (with_reducible refine s_nil ?_)
  | (with_reducible refine s_cons ?_)
  | (with_reducible refine o_nil ?_)
  | (with_reducible refine o_cons ?_)
  | (with_reducible refine a_nil ?_)
  | (with_reducible refine a_val ?_)
  | (with_reducible refine p_abs ?_)
  | ((with_reducible refine' e_call (ms := [true, false]) ?e1 ?e2 ?k1); (case e1 => exact rfl); (case e2 => exact rfl)) | ((with_reducible refine' e_call (ms := [false, false]) ?e1 ?e2 ?k1); (case e1 => exact rfl); (case e2 => exact rfl)) | ((with_reducible refine' e_call (ms := [false]) ?e1 ?e2 ?k1); (case e1 => exact rfl); (case e2 => exact rfl))
  | (with_reducible refine ifT ?_) | (with_reducible refine ifF ?_)
  | ((with_reducible refine ifdR ?h1 ?k1); (case h1 => with_reducible rfl))
  | ((with_reducible refine ifdN ?h1 ?k1); (case h1 => exact lneq (by decide)))
  | (with_reducible refine ifd (fun _ => ?_) (fun _ => ?_))
  | ((with_reducible refine' e_var ?e1 ?o1 ?k1); (case e1 => first | exact rfl | exact fun _ => rfl); (case o1 => first | exact rfl | exact fun _ => rfl))
  | ((with_reducible refine' s_retv ?e1 ?o1 ?k1); (case e1 => first | exact rfl | exact fun _ => rfl); (case o1 => first | exact rfl | exact fun _ => rfl))
  | ((with_reducible refine' r_var ?e1 ?k1); (case e1 => first | exact rfl | exact fun _ => rfl))
  | ((with_reducible refine' a_var ?e1 ?k1); (case e1 => first | exact rfl | exact fun _ => rfl))
  | ((with_reducible refine' r_val ?e1 ?k1); (case e1 => first | exact rfl | exact fun _ => rfl))
  | ((with_reducible refine' p_val ?e1 ?k1); (case e1 => first | exact rfl | exact fun _ => rfl))
  | ((with_reducible refine' s_augIx ?e1 ?k1); (case e1 => exact rfl)) | (with_reducible refine s_setIx ?_) | ((with_reducible refine' s_mut ?e1 ?k1); (case e1 => exact rfl)) | ((with_reducible refine' e_varO ?e1 ?e2 ?k1); (case e1 => exact rfl); (case e2 => exact rfl)) | ((with_reducible refine' s_retO ?e1 ?e2 ?k1); (case e1 => exact rfl); (case e2 => exact rfl)) | ((with_reducible refine' s_aug ?e1 ?k1); (case e1 => exact rfl))
  | ((with_reducible refine' ⟨_, _, _, _, ?a1, ?a2, ?a3, ?a4, ?k1⟩); (case a1 => exact rfl); (case a2 => exact rfl); (case a3 => exact rfl); (case a4 => exact rfl))
  | ((with_reducible refine' ⟨_, _, ?a1, ?a2, _, ?a3, ?k1⟩); (case a1 => exact rfl); (case a2 => exact rfl); (case a3 => exact rfl))
  | ((with_reducible refine' ⟨⟨_, ?a1⟩, ?k1⟩); (case a1 => exact rfl))
  | ((with_reducible refine' ⟨_, _, _, ?a1, ?a2, ?a3, ?k1⟩); (case a1 => exact rfl); (case a2 => exact rfl); (case a3 => first | exact rfl | exact pow18 | (refine mulR ?_; decide +kernel) | (refine mulL ?_; decide +kernel) | (refine mulR ?_; exact small_mod) | (refine modV ?_ <;> omega) | (refine fdivV ?_ ?_ <;> omega) | (refine addS ?_; simp only [List.length_append, List.length_take, List.length_drop]; omega)))
  | ((with_reducible refine' ⟨_, _, ?a1, ?a2, ?k1⟩); (case a1 => exact rfl); (case a2 => first | exact rfl | (refine lenS ?_ <;> omega) | (refine slcTo ?_ ?_ <;> omega) | (refine slcFrom ?_ ?_ <;> omega) | (refine slcMid ?_ ?_ ?_ <;> omega) | (refine slcLTo ?_ <;> omega) | (refine slcLFrom ?_ <;> omega)))
  | ((with_reducible refine' ⟨_, ?a1, ?k1⟩); (case a1 => exact rfl))
  | ((with_reducible refine ⟨?a1, ?a2, ?k1⟩); (case a1 => exact rfl); (case a2 => exact Nat.le_of_ble_eq_true rfl))
  | ((with_reducible refine' ⟨?a1, ?k1⟩); (case a1 => first | exact rfl | exact Nat.le_of_ble_eq_true rfl))
  | (with_reducible exact Nat.le_of_ble_eq_true rfl)
  | fail "no step")

/-- what a told call answers -/
def tTold : D := .str [116, 111, 108, 100]
def tNone : D := .str [110, 111, 110, 101]
def Heard : (D → D) × (Nat → D → D) := (fun d => .tup [tTold, d], fun _ d => .tup [tNone, d])
def Grows : Sig := Sg (P10 ++ [Fdrawn]) [Heard] 0 [true, false]
def Frows : Fn := fnD Grows [true, false] N_law_rows_right.length s_law_rows_right
def dueD : List Nat ⊕ Ch → D
  | .inl t => .tup [tTold, .str t]
  | .inr c => .tup [tNone, chD c]
theorem goAll_snoc : ∀ (cs : List Ch) (t : List Nat) (c : Ch), goAll t (cs ++ [c]) = (match goAll t cs with | .inl u => if c.2.1 ≤ u.length then .inl (chg u c) else .inr c | .inr x => .inr x)
  | [], t, c => rfl
  | b :: cs, t, c => by
    show goAll t (b :: (cs ++ [c])) = _
    rw [goAll_cons, goAll_cons]
    split
    · exact goAll_snoc cs _ c
    · rfl
theorem goAll_len : ∀ (cs : List Ch) (t u : List Nat), (∀ c ∈ cs, ChOk c) → goAll t cs = .inl u → u.length + 20 ≤ 2 ^ cs.length * (t.length + 20)
  | [], t, u, _, h => by cases h; simp
  | c :: cs, t, u, hc, h => by
    rw [goAll_cons] at h
    split at h
    · have i := goAll_len cs _ u (fun x hx => hc x (List.mem_cons_of_mem _ hx)) h
      have l := chg_len t (hc c (List.mem_cons_self ..))
      have : 2 ^ cs.length * ((chg t c).length + 20) ≤ 2 ^ cs.length * (2 * (t.length + 20)) := Nat.mul_le_mul_left _ (by omega)
      rw [List.length_cons, Nat.pow_succ, Nat.mul_assoc]
      exact Nat.le_trans i this
    · cases h
theorem appV {ds : List D} {d : D} (h : ds.length < 16777216) : mutD .append (.lst ds) [d] = some (.non, .lst (ds ++ [d])) := if_pos h
/-- a change with ends that are not too great -/
def ChB (c : Ch) : Prop := ChOk c ∧ c.1 ≤ c.2.1 ∧ c.2.1 < 3000000
theorem log_lt {i : Int} (h : 0 ≤ i) (h2 : i < 3000000) : i.natAbs.log2 < 22 := by
  rcases Nat.eq_zero_or_pos i.natAbs with z | z
  · rw [z]; decide
  · exact (Nat.log2_lt (by omega)).mpr (by have : (2 : Nat) ^ 22 = 4194304 := by decide
                                           omega)
theorem chD_ok {c : Ch} (h : ChB c) : (chD c).okv = true := by
  obtain ⟨⟨h1, h2, h3, h4⟩, h5, h6⟩ := h
  have := log_lt h1 (by omega)
  have := log_lt h2 h6
  unfold chD
  simp only [D.okv, D.okvs, h4, Bool.and_true, Bool.and_eq_true, decide_eq_true_eq]
  omega
theorem chD_wt {c : Ch} (h : ChB c) : (chD c).wt ≤ 300 := by
  obtain ⟨⟨h1, h2, h3, h4⟩, h5, h6⟩ := h
  have := log_lt h1 (by omega)
  have := log_lt h2 h6
  unfold chD
  simp only [D.wt, D.wts]
  omega
theorem chD_dep (c : Ch) : (chD c).py.depth = 1 := by
  unfold chD
  simp [D.py, D.pys, PyData.depth, PyData.depthAll]
theorem chs_ok : ∀ {cs : List Ch}, (∀ c ∈ cs, ChB c) → D.okvs (cs.map chD) = true ∧ D.wts (cs.map chD) ≤ 302 * cs.length ∧ PyData.depthAll (D.pys (cs.map chD)) ≤ 1
  | [], _ => by simp [D.okvs, D.wts, D.pys, PyData.depthAll]
  | c :: cs, h => by
    obtain ⟨h1, h2, h3⟩ := chs_ok fun x hx => h x (List.mem_cons_of_mem _ hx)
    have hc := h c (List.mem_cons_self ..)
    have := chD_wt hc
    rw [List.map_cons, D.okvs, D.wts, D.pys, PyData.depthAll, chD_ok hc, h1, chD_dep, List.length_cons]
    exact ⟨rfl, by omega, by omega⟩
theorem fine_chs {cs : List Ch} (h : ∀ c ∈ cs, ChB c) (hl : cs.length ≤ 5) : Fine (.lst (cs.map chD)) := by
  obtain ⟨h1, h2, h3⟩ := chs_ok h
  refine ⟨by rw [D.okv]; exact h1, by rw [D.py, PyData.depth]; omega, ?_⟩
  rw [D.wt]
  unfold lim
  omega
theorem chg_chars {t : List Nat} {c : Ch} (h : t.all (· < 0x110000) = true) (hc : ChOk c) : (chg t c).all (· < 0x110000) = true := by
  unfold chg
  rw [List.all_append, List.all_append, hc.2.2.2, Bool.and_true, Bool.and_eq_true, List.all_eq_true, List.all_eq_true]
  rw [List.all_eq_true] at h
  exact ⟨fun x hx => h x (List.mem_of_mem_take hx), fun x hx => h x (List.mem_of_mem_drop hx)⟩
theorem goAll_chars : ∀ (cs : List Ch) (t u : List Nat), (∀ c ∈ cs, ChOk c) → t.all (· < 0x110000) = true → goAll t cs = .inl u → u.all (· < 0x110000) = true
  | [], t, u, _, ht, h => by cases h; exact ht
  | c :: cs, t, u, hc, ht, h => by
    rw [goAll_cons] at h
    split at h
    · exact goAll_chars cs _ u (fun x hx => hc x (List.mem_cons_of_mem _ hx)) (chg_chars ht (hc c (List.mem_cons_self ..))) h
    · cases h
theorem goAll_mem : ∀ (cs : List Ch) (t : List Nat) (x : Ch), goAll t cs = .inr x → x ∈ cs
  | [], t, x, h => by cases h
  | c :: cs, t, x, h => by
    rw [goAll_cons] at h
    split at h
    · exact List.mem_cons_of_mem _ (goAll_mem cs _ x h)
    · cases h; exact List.mem_cons_self ..
theorem fine_told {u : List Nat} (h : u.all (· < 0x110000) = true) (hl : u.length ≤ 100000) : Fine (.tup [tTold, .str u]) := by
  refine ⟨?_, ?_, ?_⟩
  · simp only [D.okv, D.okvs, tTold, h, Bool.and_true]; decide
  · simp [D.py, D.pys, PyData.depth, PyData.depthAll, tTold]
  · simp only [D.wt, D.wts, tTold]; unfold lim; simp only [List.length_cons, List.length_nil]; omega
theorem fine_none {c : Ch} (h : ChB c) : Fine (.tup [tNone, chD c]) := by
  have h1 := chD_ok h
  have h2 := chD_wt h
  refine ⟨?_, ?_, ?_⟩
  · simp only [D.okv, D.okvs, tNone, h1, Bool.and_true]; decide
  · simp [D.py, D.pys, PyData.depth, PyData.depthAll, tNone, chD_dep]
  · simp only [D.wt, D.wts, tNone]; unfold lim; simp only [List.length_cons, List.length_nil]; omega
theorem fine_due {cs : List Ch} {t : List Nat} (h : ∀ c ∈ cs, ChB c) (hl : cs.length ≤ 5) (ht : t.length ≤ 25) (hx : t.all (· < 0x110000) = true) : Fine (dueD (goAll t cs)) := by
  cases hg : goAll t cs with
  | inl u =>
    have l := goAll_len cs t u (fun c z => (h c z).1) hg
    have hp : 2 ^ cs.length ≤ 32 := Nat.pow_le_pow_right (by decide) hl
    have : 2 ^ cs.length * (t.length + 20) ≤ 32 * 45 := Nat.mul_le_mul hp (by omega)
    exact fine_told (goAll_chars cs t u (fun c z => (h c z).1) hx hg) (by omega)
  | inr x => exact fine_none (h x (goAll_mem cs t x hg))
def rowsBody : Ss := match s_law_rows_right with
  | .cons _ (.cons (.for_ _ _ b) _) => b
  | _ => .nil
theorem rows_turn {q : D} {t : List Nat} {cs : List Ch} {y4 y5 y6 y7 : Option D} (hb : BagOk (.own q)) (hc : ∀ c ∈ cs, ChB c) (hl : cs.length ≤ 4) (ht : t.length ≤ 25) :
    Xs Grows rowsBody [some (.own q), some (.str t), some (.own (.lst (cs.map chD))), some (dueD (goAll t cs)), y4, y5, y6, y7]
      (fun o => ∃ q' c, BagOk (.own q') ∧ ChB c ∧ o = .nx [some (.own q'), some (.str t), some (.own (.lst ((cs ++ [c]).map chD))), some (dueD (goAll t (cs ++ [c]))), y4, some (chD c), y6, y7]) := by
  have hp : 2 ^ cs.length ≤ 16 := Nat.pow_le_pow_right (by decide) (by omega : cs.length ≤ 4)
  unfold rowsBody s_law_rows_right
  dsimp only
  cases hg : goAll t cs with
  | inl u =>
    have hu := goAll_len cs t u (fun c h => (hc c h).1) hg
    have : 2 ^ cs.length * (t.length + 20) ≤ 16 * 45 := Nat.mul_le_mul hp (by omega)
    simp only [dueD]
    repeat' l_ints
    refine ⟨by simp [places], _, rfl, Rn.imp (run_drawn hb (n := u.length) (by omega) (by omega)) ?_ fun _ _ _ z => z.elim⟩
    rintro v os ⟨d', b, e, w, rfl, g1, g2, g3, g4, g5, rfl, hb'⟩
    obtain ⟨q3, rfl⟩ := bag_own hb'
    have ok : ChB (b, e, w) := ⟨⟨g1, by show (0 : Int) ≤ e; omega, g4, g5⟩, g2, g3⟩
    refine ⟨_, rfl, ?_⟩
    repeat' l_ints
    refine ⟨_, _, _, rfl, appV (by rw [List.length_map]; omega), ?_⟩
    repeat' l_ints
    · rename_i z
      have z : e ≤ u.length := z
      refine ⟨by simp [places], _, rfl, Rn.imp (run_chg (t := u) (s := w) (by omega) (by omega) g1 (by omega)) ?_ fun _ _ _ z => z.elim⟩
      rintro v os ⟨rfl, rfl⟩
      refine ⟨_, rfl, ?_⟩
      repeat' l_ints
      refine ⟨q3, (b, e, w), hb', ok, ?_⟩
      rw [goAll_snoc, hg, List.map_append]
      dsimp only
      rw [if_pos z]
      rfl
    · rename_i z
      have z : ¬ e ≤ u.length := z
      refine ⟨q3, (b, e, w), hb', ok, ?_⟩
      rw [goAll_snoc, hg, List.map_append]
      dsimp only
      rw [if_neg z]
      rfl
  | inr x =>
    simp only [dueD]
    repeat' l_ints
    refine ⟨by simp [places], _, rfl, Rn.imp (run_drawn hb (n := 9) (by decide) (by decide)) ?_ fun _ _ _ z => z.elim⟩
    rintro v os ⟨d', b, e, w, rfl, g1, g2, g3, g4, g5, rfl, hb'⟩
    obtain ⟨q3, rfl⟩ := bag_own hb'
    have ok : ChB (b, e, w) := ⟨⟨g1, by show (0 : Int) ≤ e; omega, g4, g5⟩, g2, g3⟩
    refine ⟨_, rfl, ?_⟩
    repeat' l_ints
    refine ⟨_, _, _, rfl, appV (by rw [List.length_map]; omega), ?_⟩
    repeat' l_ints
    refine ⟨q3, (b, e, w), hb', ok, ?_⟩
    rw [goAll_snoc, hg, List.map_append]
    rfl

theorem run_rows {d : D} {t : List Nat} (hb : BagOk d) (ht : t.length ≤ 25) (htx : t.all (· < 0x110000) = true) :
    Rn Frows [d, .str t] (fun v os => ∃ d', v = .bl true ∧ os = [d', .str t] ∧ BagOk d') (fun _ _ _ => False) := by
  obtain ⟨q, rfl⟩ := bag_own hb
  refine fn_run rfl ?_
  show Xs Grows s_law_rows_right _ _
  unfold s_law_rows_right
  repeat' l_ints
  all_goals first | exact Nat.le_of_ble_eq_true rfl | skip
  refine Xo.imp (Q := fun o => ∃ q cs y4 y5 y6 y7, BagOk (.own q) ∧ (∀ c ∈ cs, ChB c) ∧ cs.length ≤ 4 ∧ o = .nx [some (.own q), some (.str t), some (.own (.lst (cs.map chD))), some (dueD (goAll t cs)), y4, y5, y6, y7]) ?_ ?_
  · show X1 _ _ _ _
    refine s_for ?_
    repeat' l_ints
    refine ⟨by simp [places], _, rfl, Rn.imp (run_take hb (m := 5) (by decide) (by decide)) ?_ fun _ _ _ z => z.elim⟩
    rintro v os ⟨n, d', rfl, h0, h1, rfl, hb'⟩
    obtain ⟨q2, rfl⟩ := bag_own hb'
    refine ⟨_, rfl, n, rfl, by omega, fun k e => ∃ q cs y4 y5 y6 y7, e = [some (.own q), some (.str t), some (.own (.lst (cs.map chD))), some (dueD (goAll t cs)), y4, y5, y6, y7] ∧ BagOk (.own q) ∧ cs.length = k ∧ ∀ c ∈ cs, ChB c, ⟨_, [], _, _, _, _, rfl, hb', rfl, fun c h => (List.not_mem_nil h).elim⟩, ?_, ?_⟩
    · rintro k d e hk ⟨q, cs, y4, y5, y6, y7, rfl, hb, hl, hc⟩
      have hk : k < 5 := by
        have := (List.getElem?_eq_some_iff.mp hk).1
        rw [List.length_map, List.length_range] at this
        omega
      refine g_nm rfl (Nat.le_of_ble_eq_true rfl) ?_
      refine Xo.imp (rows_turn hb hc (by omega) ht) ?_
      rintro o ⟨q', c, hb', hcb, rfl⟩
      refine ⟨q', cs ++ [c], _, _, _, _, rfl, hb', by rw [List.length_append, hl]; rfl, ?_⟩
      intro x hx
      rcases List.mem_append.mp hx with z | z
      · exact hc x z
      · rw [List.mem_singleton.mp z]; exact hcb
    · rintro e ⟨q, cs, y4, y5, y6, y7, rfl, hb, hl, hc⟩
      rw [List.length_map, List.length_range] at hl
      exact ⟨q, cs, y4, y5, y6, y7, hb, hc, by omega, rfl⟩
  · rintro o ⟨q, cs, y4, y5, y6, y7, hb, hc, hl, rfl⟩
    have fn := fine_chs hc (by omega)
    have fd := fine_due hc (by omega) ht htx
    repeat' l_ints
    refine ⟨by simp [places], _, rfl, Rn.imp (run_one hb (Nat.le_of_ble_eq_true rfl) (Nat.le_of_ble_eq_true rfl)) ?_ fun _ _ _ z => z.elim⟩
    rintro v os ⟨d', hm, rfl, hb'⟩
    obtain ⟨q3, rfl⟩ := bag_own hb'
    have hv : v.isOwn = false ∧ v.fz = v ∧ itemsD v = some (cs.map chD) := by
      simp only [List.mem_cons, List.not_mem_nil, or_false, D.fz] at hm
      rcases hm with rfl | rfl <;> exact ⟨rfl, rfl, rfl⟩
    obtain ⟨v1, v2, v3⟩ := hv
    refine ⟨_, rfl, ?_⟩
    repeat' l_ints
    refine ⟨_, _, rfl, repr_ok fn.ok fn.dep fn.wt, ?_⟩
    repeat' l_ints
    refine e_heard rfl ?_
    repeat' l_ints
    refine e_var rfl (by rw [v2]; exact v1) ?_
    repeat' l_ints
    refine ⟨by simp [places], _, rfl, ?_⟩
    rw [v2, v2]
    refine Rn.imp (run_changed_by v3 v1 v2 (by omega) (by omega) (fun c h => (hc c h).1)) ?_ ?_
    · rintro v' os ⟨t', hg, rfl, rfl⟩
      rw [hg] at fd ⊢
      refine ⟨_, rfl, ?_⟩
      repeat' l_ints
      refine ⟨by simp [places], _, rfl, Rn.imp (run_alike fd) ?_ fun _ _ _ z => z.elim⟩
      rintro v' os ⟨rfl, rfl⟩
      refine ⟨_, rfl, true, rfl, ?_⟩
      rw [if_pos rfl]
      repeat' l_ints
      refine ⟨_, _, rfl, repr_ok fn.ok fn.dep fn.wt, ?_⟩
      repeat' l_ints
      exact ⟨_, rfl, _, congrArg D.bl (decide_eq_true rfl), rfl, hb'⟩
    · rintro n v' os ⟨x, hg, rfl, rfl, rfl⟩
      rw [hg] at fd ⊢
      refine ⟨_, rfl, ?_⟩
      repeat' l_ints
      refine ⟨by simp [places], _, rfl, Rn.imp (run_alike fd) ?_ fun _ _ _ z => z.elim⟩
      rintro v' os ⟨rfl, rfl⟩
      refine ⟨_, rfl, true, rfl, ?_⟩
      rw [if_pos rfl]
      repeat' l_ints
      refine ⟨_, _, rfl, repr_ok fn.ok fn.dep fn.wt, ?_⟩
      repeat' l_ints
      exact ⟨_, rfl, _, congrArg D.bl (decide_eq_true rfl), rfl, hb'⟩
end K60

set_option Elab.async false
set_option linter.all false
set_option maxRecDepth 100000
set_option maxHeartbeats 2000000
namespace K60
open PySem Dz
theorem t_call {Γ : Sig} {f : Nat} {es : Es} {env : Dz.Env} {Qb : Bool → Dz.Env → Prop} {X : Nat → D → Dz.Env → Prop} (h : We Γ (.call f es) env (fun d e1 => ∃ t, truth d.fz = some t ∧ Qb t e1) X) : Wt Γ (.call f es) env Qb X := t_val (by rw [ev]) h
theorem ifNT {A B : Prop} (h : B) : if (!true) = true then A else B := h
theorem ifNF {A B : Prop} (h : A) : if (!false) = true then A else B := h
local macro_rules | `(tactic| l_ints) => `(tactic| first
  | (with_reducible refine x_cons ?_)
  | (with_reducible refine x_nil ?_) | (with_reducible refine i_e ?_) | (with_reducible refine i_r1 ?_) | (with_reducible refine i_r2 ?_) | (with_reducible refine i_ez ?_) | (with_reducible refine c_turn ?_) | (with_reducible refine c_nil ?_) | (with_reducible refine c_one ?_)
  | (with_reducible refine s_asg ?_)
  | (with_reducible refine s_asgT ?_)
  | (with_reducible refine s_par ?_)
  | (with_reducible refine s_if ?_)
  | (with_reducible refine s_raise ?_)
  | (with_reducible refine s_expr ?_)
  | ((with_reducible refine s_ret ?e1 ?k1); (case e1 => exact fun _ => rfl))
  | (with_reducible refine e_cst ?_)
  | (with_reducible refine e_bin ?_)
  | (with_reducible refine e_cmp ?_)
  | (with_reducible refine e_idx ?_)
  | (with_reducible refine e_slc ?_)
  | (with_reducible refine e_rev ?_)
  | (with_reducible refine e_and ?_)
  | (with_reducible refine e_ite ?_)
  | (with_reducible refine e_tup ?_)
  | (with_reducible refine e_lst ?_)
  | (with_reducible refine e_bi ?_)
  | (with_reducible refine e_neg ?_)
  | (with_reducible refine e_meth ?_)
  | (with_reducible refine t_cmp ?_) | (with_reducible refine g_tp ?_) | (with_reducible refine g_cons ?_) | (with_reducible refine g_nil ?_) | ((with_reducible refine' g_nm ?e1 ?e2 ?k1); (case e1 => exact rfl); (case e2 => exact Nat.le_of_ble_eq_true rfl))
  | (with_reducible refine t_and ?_)
  | (with_reducible refine t_or ?_)
  | (with_reducible refine t_not ?_) | (with_reducible refine t_call ?_) | (with_reducible refine ifNT ?_) | (with_reducible refine ifNF ?_)
  | (with_reducible refine s_nil ?_)
  | (with_reducible refine s_cons ?_)
  | (with_reducible refine o_nil ?_)
  | (with_reducible refine o_cons ?_)
  | (with_reducible refine a_nil ?_)
  | (with_reducible refine a_val ?_)
  | (with_reducible refine p_abs ?_)
  | ((with_reducible refine' e_call (ms := [true, false]) ?e1 ?e2 ?k1); (case e1 => exact rfl); (case e2 => exact rfl)) | ((with_reducible refine' e_call (ms := [false, false]) ?e1 ?e2 ?k1); (case e1 => exact rfl); (case e2 => exact rfl)) | ((with_reducible refine' e_call (ms := [false]) ?e1 ?e2 ?k1); (case e1 => exact rfl); (case e2 => exact rfl))
  | (with_reducible refine ifT ?_) | (with_reducible refine ifF ?_)
  | ((with_reducible refine ifdR ?h1 ?k1); (case h1 => with_reducible rfl))
  | ((with_reducible refine ifdN ?h1 ?k1); (case h1 => exact lneq (by decide)))
  | (with_reducible refine ifd (fun _ => ?_) (fun _ => ?_))
  | ((with_reducible refine' e_var ?e1 ?o1 ?k1); (case e1 => first | exact rfl | exact fun _ => rfl); (case o1 => first | exact rfl | exact fun _ => rfl))
  | ((with_reducible refine' s_retv ?e1 ?o1 ?k1); (case e1 => first | exact rfl | exact fun _ => rfl); (case o1 => first | exact rfl | exact fun _ => rfl))
  | ((with_reducible refine' r_var ?e1 ?k1); (case e1 => first | exact rfl | exact fun _ => rfl))
  | ((with_reducible refine' a_var ?e1 ?k1); (case e1 => first | exact rfl | exact fun _ => rfl))
  | ((with_reducible refine' r_val ?e1 ?k1); (case e1 => first | exact rfl | exact fun _ => rfl))
  | ((with_reducible refine' p_val ?e1 ?k1); (case e1 => first | exact rfl | exact fun _ => rfl))
  | ((with_reducible refine' s_augIx ?e1 ?k1); (case e1 => exact rfl)) | (with_reducible refine s_setIx ?_) | ((with_reducible refine' s_mut ?e1 ?k1); (case e1 => exact rfl)) | ((with_reducible refine' e_varO ?e1 ?e2 ?k1); (case e1 => exact rfl); (case e2 => exact rfl)) | ((with_reducible refine' s_retO ?e1 ?e2 ?k1); (case e1 => exact rfl); (case e2 => exact rfl)) | ((with_reducible refine' s_aug ?e1 ?k1); (case e1 => exact rfl))
  | ((with_reducible refine' ⟨_, _, _, _, ?a1, ?a2, ?a3, ?a4, ?k1⟩); (case a1 => exact rfl); (case a2 => exact rfl); (case a3 => exact rfl); (case a4 => exact rfl))
  | ((with_reducible refine' ⟨_, _, ?a1, ?a2, _, ?a3, ?k1⟩); (case a1 => exact rfl); (case a2 => exact rfl); (case a3 => exact rfl))
  | ((with_reducible refine' ⟨⟨_, ?a1⟩, ?k1⟩); (case a1 => exact rfl))
  | ((with_reducible refine' ⟨_, _, _, ?a1, ?a2, ?a3, ?k1⟩); (case a1 => exact rfl); (case a2 => exact rfl); (case a3 => first | exact rfl | exact pow18 | (refine mulR ?_; decide +kernel) | (refine mulL ?_; decide +kernel) | (refine mulR ?_; exact small_mod) | (refine modV ?_ <;> omega) | (refine fdivV ?_ ?_ <;> omega) | (refine addS ?_; simp only [List.length_append, List.length_take, List.length_drop]; omega)))
  | ((with_reducible refine' ⟨_, _, ?a1, ?a2, ?k1⟩); (case a1 => exact rfl); (case a2 => first | exact rfl | (refine lenS ?_ <;> omega) | (refine slcTo ?_ ?_ <;> omega) | (refine slcFrom ?_ ?_ <;> omega) | (refine slcMid ?_ ?_ ?_ <;> omega) | (refine slcLTo ?_ <;> omega) | (refine slcLFrom ?_ <;> omega)))
  | ((with_reducible refine' ⟨_, ?a1, ?k1⟩); (case a1 => exact rfl))
  | ((with_reducible refine ⟨?a1, ?a2, ?k1⟩); (case a1 => exact rfl); (case a2 => exact Nat.le_of_ble_eq_true rfl))
  | ((with_reducible refine' ⟨?a1, ?k1⟩); (case a1 => first | exact rfl | exact Nat.le_of_ble_eq_true rfl))
  | (with_reducible exact Nat.le_of_ble_eq_true rfl)
  | fail "no step")

theorem log_lt2 {i : Int} (h : 0 ≤ i) (h2 : i < 4000000) : i.natAbs.log2 < 22 := by
  rcases Nat.eq_zero_or_pos i.natAbs with z | z
  · rw [z]; decide
  · exact (Nat.log2_lt (by omega)).mpr (by have : (2 : Nat) ^ 22 = 4194304 := by decide
                                           omega)
theorem fine_ch3 {b e : Int} {s : List Nat} (h1 : 0 ≤ b) (h2 : 0 ≤ e) (h3 : b < 4000000) (h4 : e < 4000000) (hs : s.length ≤ 1000) (hx : s.all (· < 0x110000) = true) : Fine (.tup [.int b, .int e, .str s]) := by
  have := log_lt2 h1 h3
  have := log_lt2 h2 h4
  refine ⟨?_, ?_, ?_⟩
  · simp only [D.okv, D.okvs, hx, Bool.and_true, Bool.and_eq_true, decide_eq_true_eq]; omega
  · simp [D.py, D.pys, PyData.depth, PyData.depthAll]
  · simp only [D.wt, D.wts]; unfold lim; omega
theorem fine_str {s : List Nat} (hs : s.length ≤ 1000) (hx : s.all (· < 0x110000) = true) : Fine (.str s) := by
  refine ⟨?_, ?_, ?_⟩
  · simp only [D.okv, hx]
  · simp [D.py, PyData.depth]
  · simp only [D.wt]; unfold lim; omega
def Glaw : Sig := Sg (P10 ++ [Fdrawn, Frows, Fall]) [Heard] 0 [false]
def Flaw : Fn := fnD Glaw [false] N_law.length s_law
def lawB1 : Ss := match s_law with
  | .cons _ (.cons (.for_ _ _ b) _) => b
  | _ => .nil
def lawB2 : Ss := match s_law with
  | .cons _ (.cons _ (.cons (.for_ _ _ b) _)) => b
  | _ => .nil
def texts1 : List D := [.str [108, 101, 116, 32, 97, 32, 61, 32, 49, 59, 10, 10, 115, 101, 116, 32, 98, 61, 50, 59, 32, 35, 32, 120, 10], .str [], .str [97, 97, 97, 97], .str [120], .str [102, 40, 32, 97, 44, 10, 32, 98, 41, 59], .str [39, 39, 39, 97, 10, 98, 39, 39, 39, 59]]
theorem law1 {q : D} {x0 x2 x3 x4 x5 x6 x7 x8 x9 x10 x11 x12 x13 x14 x15 : Option D} (hb : BagOk (.own q)) :
    Xs Glaw lawB1 [x0, some (.own q), x2, x3, x4, x5, x6, x7, x8, x9, x10, x11, x12, x13, x14, x15]
      (fun o => ∃ q' y3 y4 y5 y6, BagOk (.own q') ∧ o = .nx [x0, some (.own q'), x2, y3, y4, y5, y6, x7, x8, x9, x10, x11, x12, x13, x14, x15]) := by
  unfold lawB1 s_law
  dsimp only
  repeat' l_ints
  refine ⟨by simp [places], _, rfl, Rn.imp (run_one hb (Nat.le_of_ble_eq_true rfl) (Nat.le_of_ble_eq_true rfl)) ?_ fun _ _ _ z => z.elim⟩
  rintro v os ⟨d', hm, rfl, hb⟩
  obtain ⟨q1, rfl⟩ := bag_own hb
  obtain ⟨t, rfl, ht, hx⟩ : ∃ t, v = .str t ∧ t.length ≤ 25 ∧ t.all (· < 0x110000) = true := by
    simp only [List.mem_cons, List.not_mem_nil, or_false, D.fz] at hm
    rcases hm with rfl | rfl | rfl | rfl | rfl | rfl <;> exact ⟨_, rfl, by decide, by decide⟩
  refine ⟨_, rfl, ?_⟩
  repeat' l_ints
  refine ⟨by simp [places], _, rfl, Rn.imp (run_drawn hb (n := t.length) (by omega) (by omega)) ?_ fun _ _ _ z => z.elim⟩
  rintro v os ⟨d', b, e, w, rfl, g1, g2, g3, g4, g5, rfl, hb⟩
  obtain ⟨q2, rfl⟩ := bag_own hb
  have ok : ChB (b, e, w) := ⟨⟨g1, by show (0 : Int) ≤ e; omega, g4, g5⟩, g2, g3⟩
  refine ⟨_, rfl, ?_⟩
  repeat' l_ints
  · rename_i z
    have z : e ≤ t.length := z
    have fd : Fine (.tup [tTold, .str (chg t (b, e, w))]) := fine_told (chg_chars hx ok.1) (by have := chg_len t ok.1; omega)
    refine ⟨by simp [places], _, rfl, Rn.imp (run_chg (t := t) (s := w) (by omega) (by omega) g1 (by omega)) ?_ fun _ _ _ z => z.elim⟩
    rintro v os ⟨rfl, rfl⟩
    refine ⟨_, rfl, ?_⟩
    repeat' l_ints
    refine e_heard rfl ?_
    repeat' l_ints
    refine ⟨by simp [places], _, rfl, Rn.imp (run_changed (t := t) (s := w) (by omega) (by omega) g1 (by omega)) ?_ fun _ _ _ h => absurd h.1 (by omega)⟩
    rintro v os ⟨_, rfl, rfl⟩
    refine ⟨_, rfl, ?_⟩
    repeat' l_ints
    refine ⟨by simp [places], _, rfl, Rn.imp (run_alike fd) ?_ fun _ _ _ z => z.elim⟩
    rintro v os ⟨rfl, rfl⟩
    refine ⟨_, rfl, ?_⟩
    repeat' l_ints
    refine ⟨by simp [places], _, rfl, Rn.imp (run_rows hb ht hx) ?_ fun _ _ _ z => z.elim⟩
    rintro v os ⟨d', rfl, rfl, hb⟩
    obtain ⟨q3, rfl⟩ := bag_own hb
    refine ⟨_, rfl, ?_⟩
    repeat' l_ints
    refine ⟨by simp [places], _, rfl, Rn.imp (run_back (t := t) (s := w) (by omega) (by omega) g1 (by omega)) ?_ fun _ _ _ z => z.elim⟩
    rintro v os ⟨rfl, rfl⟩
    refine ⟨_, rfl, ?_⟩
    repeat' l_ints
    have sl : ((t.drop b.toNat).take (e.toNat - b.toNat)).length ≤ 25 := by rw [List.length_take, List.length_drop]; omega
    have sx : ((t.drop b.toNat).take (e.toNat - b.toNat)).all (· < 0x110000) = true := by
      rw [List.all_eq_true] at hx ⊢
      exact fun x h => hx x (List.mem_of_mem_drop (List.mem_of_mem_take h))
    refine ⟨by simp [places], _, rfl, Rn.imp (run_alike (fine_ch3 (b := b) (e := b + w.length) g1 (by omega) (by omega) (by omega) (by omega) sx)) ?_ fun _ _ _ z => z.elim⟩
    rintro v os ⟨rfl, rfl⟩
    refine ⟨_, rfl, ?_⟩
    repeat' l_ints
    have cl := chg_len t ok.1
    have cl2 : (chg t (b, e, w)).length = b.toNat + w.length + (t.length - e.toNat) := by
      unfold chg
      simp only [List.length_append, List.length_take, List.length_drop]
      omega
    refine ⟨by simp [places], _, rfl, Rn.imp (run_changed (t := chg t (b, e, w)) (s := (t.drop b.toNat).take (e.toNat - b.toNat)) (b := b) (e := b + w.length) (by omega) (by omega) g1 (by omega)) ?_ fun _ _ _ h => absurd h.1 (by omega)⟩
    rintro v os ⟨_, rfl, rfl⟩
    refine ⟨_, rfl, ?_⟩
    have back := chg_back (t := t) (s := w) g1 g2 z
    repeat' l_ints
    refine ⟨by simp [places], _, rfl, ?_⟩
    have ee : D.str (List.take b.toNat (chg t (b, e, w)) ++ List.take (e.toNat - b.toNat) (List.drop b.toNat t) ++ List.drop (b + w.length).toNat (chg t (b, e, w))) = .str t := congrArg D.str back
    rw [ee]
    refine Rn.imp (run_alike (fine_str (by omega) hx)) ?_ fun _ _ _ z => z.elim
    rintro v os ⟨rfl, rfl⟩
    refine ⟨_, rfl, ?_⟩
    repeat' l_ints
    exact ⟨q3, _, _, _, _, hb, rfl⟩
  · rename_i z
    have z : ¬ e ≤ t.length := z
    have fd : Fine (.tup [tNone, chD (b, e, w)]) := fine_none ok
    refine e_heard rfl ?_
    repeat' l_ints
    refine ⟨by simp [places], _, rfl, Rn.imp (run_changed (t := t) (s := w) (by omega) (by omega) g1 (by omega)) (fun _ _ h => absurd h.1 z) ?_⟩
    rintro n v os ⟨_, rfl, rfl, rfl⟩
    refine ⟨_, rfl, ?_⟩
    repeat' l_ints
    refine ⟨by simp [places], _, rfl, Rn.imp (run_alike fd) ?_ fun _ _ _ z => z.elim⟩
    rintro v os ⟨rfl, rfl⟩
    refine ⟨_, rfl, ?_⟩
    repeat' l_ints
    refine ⟨by simp [places], _, rfl, Rn.imp (run_rows hb ht hx) ?_ fun _ _ _ z => z.elim⟩
    rintro v os ⟨d', rfl, rfl, hb⟩
    obtain ⟨q3, rfl⟩ := bag_own hb
    refine ⟨_, rfl, ?_⟩
    repeat' l_ints
    exact ⟨q3, _, _, _, _, hb, rfl⟩
end K60

set_option Elab.async false
set_option linter.all false
set_option maxRecDepth 100000
set_option maxHeartbeats 2000000
namespace K60
open PySem Dz
local macro_rules | `(tactic| l_ints) => `(tactic| first
  | (with_reducible refine x_cons ?_)
  | (with_reducible refine x_nil ?_) | (with_reducible refine i_e ?_) | (with_reducible refine i_r1 ?_) | (with_reducible refine i_r2 ?_) | (with_reducible refine i_ez ?_) | (with_reducible refine c_turn ?_) | (with_reducible refine c_nil ?_) | (with_reducible refine c_one ?_)
  | (with_reducible refine s_asg ?_)
  | (with_reducible refine s_asgT ?_)
  | (with_reducible refine s_par ?_)
  | (with_reducible refine s_if ?_)
  | (with_reducible refine s_raise ?_)
  | (with_reducible refine s_expr ?_)
  | ((with_reducible refine s_ret ?e1 ?k1); (case e1 => exact fun _ => rfl))
  | (with_reducible refine e_cst ?_)
  | (with_reducible refine e_bin ?_)
  | (with_reducible refine e_cmp ?_)
  | (with_reducible refine e_idx ?_)
  | (with_reducible refine e_slc ?_)
  | (with_reducible refine e_rev ?_)
  | (with_reducible refine e_and ?_)
  | (with_reducible refine e_ite ?_)
  | (with_reducible refine e_tup ?_)
  | (with_reducible refine e_lst ?_)
  | (with_reducible refine e_bi ?_)
  | (with_reducible refine e_neg ?_)
  | (with_reducible refine e_meth ?_)
  | (with_reducible refine t_cmp ?_) | (with_reducible refine g_tp ?_) | (with_reducible refine g_cons ?_) | (with_reducible refine g_nil ?_) | ((with_reducible refine' g_nm ?e1 ?e2 ?k1); (case e1 => exact rfl); (case e2 => exact Nat.le_of_ble_eq_true rfl))
  | (with_reducible refine t_and ?_)
  | (with_reducible refine t_or ?_)
  | (with_reducible refine t_not ?_) | (with_reducible refine t_call ?_) | (with_reducible refine ifNT ?_) | (with_reducible refine ifNF ?_)
  | (with_reducible refine s_nil ?_)
  | (with_reducible refine s_cons ?_)
  | (with_reducible refine o_nil ?_)
  | (with_reducible refine o_cons ?_)
  | (with_reducible refine a_nil ?_)
  | (with_reducible refine a_val ?_)
  | (with_reducible refine p_abs ?_)
  | ((with_reducible refine' e_call (ms := [true, false]) ?e1 ?e2 ?k1); (case e1 => exact rfl); (case e2 => exact rfl)) | ((with_reducible refine' e_call (ms := [false, false]) ?e1 ?e2 ?k1); (case e1 => exact rfl); (case e2 => exact rfl)) | ((with_reducible refine' e_call (ms := [false]) ?e1 ?e2 ?k1); (case e1 => exact rfl); (case e2 => exact rfl))
  | (with_reducible refine ifT ?_) | (with_reducible refine ifF ?_)
  | ((with_reducible refine ifdR ?h1 ?k1); (case h1 => with_reducible rfl))
  | ((with_reducible refine ifdN ?h1 ?k1); (case h1 => exact lneq (by decide)))
  | (with_reducible refine ifd (fun _ => ?_) (fun _ => ?_))
  | ((with_reducible refine' e_var ?e1 ?o1 ?k1); (case e1 => first | exact rfl | exact fun _ => rfl); (case o1 => first | exact rfl | exact fun _ => rfl))
  | ((with_reducible refine' s_retv ?e1 ?o1 ?k1); (case e1 => first | exact rfl | exact fun _ => rfl); (case o1 => first | exact rfl | exact fun _ => rfl))
  | ((with_reducible refine' r_var ?e1 ?k1); (case e1 => first | exact rfl | exact fun _ => rfl))
  | ((with_reducible refine' a_var ?e1 ?k1); (case e1 => first | exact rfl | exact fun _ => rfl))
  | ((with_reducible refine' r_val ?e1 ?k1); (case e1 => first | exact rfl | exact fun _ => rfl))
  | ((with_reducible refine' p_val ?e1 ?k1); (case e1 => first | exact rfl | exact fun _ => rfl))
  | ((with_reducible refine' s_augIx ?e1 ?k1); (case e1 => exact rfl)) | (with_reducible refine s_setIx ?_) | ((with_reducible refine' s_mut ?e1 ?k1); (case e1 => exact rfl)) | ((with_reducible refine' e_varO ?e1 ?e2 ?k1); (case e1 => exact rfl); (case e2 => exact rfl)) | ((with_reducible refine' s_retO ?e1 ?e2 ?k1); (case e1 => exact rfl); (case e2 => exact rfl)) | ((with_reducible refine' s_aug ?e1 ?k1); (case e1 => exact rfl))
  | ((with_reducible refine' ⟨_, _, _, _, ?a1, ?a2, ?a3, ?a4, ?k1⟩); (case a1 => exact rfl); (case a2 => exact rfl); (case a3 => exact rfl); (case a4 => exact rfl))
  | ((with_reducible refine' ⟨_, _, ?a1, ?a2, _, ?a3, ?k1⟩); (case a1 => exact rfl); (case a2 => exact rfl); (case a3 => exact rfl))
  | ((with_reducible refine' ⟨⟨_, ?a1⟩, ?k1⟩); (case a1 => exact rfl))
  | ((with_reducible refine' ⟨_, _, _, ?a1, ?a2, ?a3, ?k1⟩); (case a1 => exact rfl); (case a2 => exact rfl); (case a3 => first | exact rfl | exact pow18 | (refine mulR ?_; decide +kernel) | (refine mulL ?_; decide +kernel) | (refine mulR ?_; exact small_mod) | (refine modV ?_ <;> omega) | (refine fdivV ?_ ?_ <;> omega) | (refine addS ?_; simp only [List.length_append, List.length_take, List.length_drop]; omega)))
  | ((with_reducible refine' ⟨_, _, ?a1, ?a2, ?k1⟩); (case a1 => exact rfl); (case a2 => first | exact rfl | (refine lenS ?_ <;> omega) | (refine slcTo ?_ ?_ <;> omega) | (refine slcFrom ?_ ?_ <;> omega) | (refine slcMid ?_ ?_ ?_ <;> omega) | (refine slcLTo ?_ <;> omega) | (refine slcLFrom ?_ <;> omega)))
  | ((with_reducible refine' ⟨_, ?a1, ?k1⟩); (case a1 => exact rfl))
  | ((with_reducible refine ⟨?a1, ?a2, ?k1⟩); (case a1 => exact rfl); (case a2 => exact Nat.le_of_ble_eq_true rfl))
  | ((with_reducible refine' ⟨?a1, ?k1⟩); (case a1 => first | exact rfl | exact Nat.le_of_ble_eq_true rfl))
  | (with_reducible exact Nat.le_of_ble_eq_true rfl)
  | fail "no step")

theorem idxS_mem {s : List Nat} {i : Int} (hl : s.length ≤ 16777216) (h : 0 ≤ i) (h2 : i < s.length) : ∃ c, idxD (.str s) (.int i) = some (.str [c]) ∧ c ∈ s := by
  have hi : i.toNat < s.length := by omega
  exact ⟨s[i.toNat], idxS hl (i := i.toNat) (by omega) (List.getElem?_eq_getElem hi), List.getElem_mem hi⟩
theorem run_oneS {d : D} {s : List Nat} (hb : BagOk d) (h : 1 ≤ s.length) (h2 : s.length < 1000000) :
    Rn Fone [d, .str s] (fun v os => ∃ d' c, v = .str [c] ∧ c ∈ s ∧ os = [d', .str s] ∧ BagOk d') (fun _ _ _ => False) := by
  obtain ⟨q, rfl⟩ := bag_own hb
  refine fn_run rfl ?_
  unfold s_law_one
  repeat' l_ints
  refine ⟨by simp [places], _, rfl, Rn.imp (run_take hb (m := s.length) (by omega) (by omega)) ?_ fun _ _ _ z => z.elim⟩
  rintro v os ⟨i, d', rfl, h0, h1, rfl, hb'⟩
  obtain ⟨c, hz, hm⟩ := idxS_mem (by omega) h0 h1
  obtain ⟨q', rfl⟩ := bag_own hb'
  refine ⟨_, rfl, _, _, _, rfl, rfl, hz, ?_⟩
  exact ⟨_, rfl, _, _, rfl, hm, rfl, hb'⟩
theorem joinE : ∀ (cs : List Nat), TL.joinL [] (cs.map fun c => [c]) = cs
  | [] => rfl
  | [c] => rfl
  | c :: d :: r => by
    have ih := joinE (d :: r)
    show [c] ++ ([] ++ TL.joinL [] ((d :: r).map fun c => [c])) = _
    rw [ih]
    rfl
theorem strsE : ∀ (cs : List Nat), strsOf (cs.map fun c => D.str [c]) = some (cs.map fun c => [c])
  | [] => rfl
  | c :: r => by
    show (strsOf (r.map fun c => D.str [c])).map ([c] :: ·) = _
    rw [strsE r]
    rfl
theorem sumE : ∀ (cs : List Nat), ((cs.map fun c => [c]).map (·.length)).sum = cs.length
  | [] => rfl
  | c :: r => by
    show [c].length + ((r.map fun c => [c]).map (·.length)).sum = _
    rw [sumE r, List.length_cons, List.length_cons, List.length_nil]
    omega
theorem join_cs {cs : List Nat} (h : cs.length ≤ 100) : methD .join (.str []) [.lst (cs.map fun c => .str [c])] = some (.str cs) := by
  show ((strsOf (cs.map fun c => D.str [c])).bind fun xs => if (xs.map (·.length)).sum + xs.length * ([] : List Nat).length ≤ lim then some (D.str (TL.joinL [] xs)) else none) = _
  rw [strsE]
  show (if ((cs.map fun c => [c]).map (·.length)).sum + (cs.map fun c => [c]).length * ([] : List Nat).length ≤ lim then some (D.str (TL.joinL [] (cs.map fun c => [c]))) else none) = _
  rw [sumE, joinE, if_pos (by unfold lim; simp only [List.length_nil, Nat.mul_zero]; omega)]
/-- "".join([_law_one(bag, signs) for k in range(take(bag, 7))]) -/
def drawE : E := match lawB2 with
  | .cons _ (.cons (.asg _ e) _) => e
  | _ => .abs
theorem draw_text {q : D} {x0 x2 x3 x4 x5 x6 x8 x9 x10 x11 x12 x13 x15 : Option D} {sg : List Nat} {Q : D → Dz.Env → Prop} {X : Nat → D → Dz.Env → Prop} (hb : BagOk (.own q)) (h1 : 1 ≤ sg.length) (h2 : sg.length < 100) (hx : sg.all (· < 0x110000) = true)
    (h : ∀ q' u, BagOk (.own q') → u.length ≤ 6 → u.all (· < 0x110000) = true → Q (.str u) [x0, some (.own q'), x2, x3, x4, x5, x6, some (.str sg), x8, x9, x10, x11, x12, x13, none, x15]) :
    We Glaw drawE [x0, some (.own q), x2, x3, x4, x5, x6, some (.str sg), x8, x9, x10, x11, x12, x13, none, x15] Q X := by
  unfold drawE lawB2 s_law
  dsimp only
  repeat' l_ints
  refine e_comp ?_
  repeat' l_ints
  refine ⟨by simp [places], _, rfl, Rn.imp (run_take hb (m := 7) (by decide) (by decide)) ?_ fun _ _ _ z => z.elim⟩
  rintro v os ⟨n, d', rfl, h0, h1', rfl, hb'⟩
  obtain ⟨q2, rfl⟩ := bag_own hb'
  refine ⟨_, rfl, n, rfl, by omega, rfl, fun k acc e => ∃ q cs y14, e = [x0, some (.own q), x2, x3, x4, x5, x6, some (.str sg), x8, x9, x10, x11, x12, x13, y14, x15] ∧ BagOk (.own q) ∧ acc = cs.map (fun c => D.str [c]) ∧ cs.length = k ∧ cs.all (· < 0x110000) = true, ⟨_, [], _, rfl, hb', rfl, rfl, rfl⟩, ?_, ?_⟩
  · rintro k d acc e hk ⟨q, cs, y14, rfl, hb, rfl, hl, hc⟩
    have hk : k < 7 := by
      have := (List.getElem?_eq_some_iff.mp hk).1
      rw [List.length_map, List.length_range] at this
      omega
    repeat' l_ints
    refine ⟨by simp [places], _, rfl, Rn.imp (run_oneS hb h1 (by omega)) ?_ fun _ _ _ z => z.elim⟩
    rintro v os ⟨d', c, rfl, hm, rfl, hb'⟩
    obtain ⟨q3, rfl⟩ := bag_own hb'
    refine ⟨_, rfl, by rw [List.length_map]; unfold lim; omega, ?_⟩
    refine ⟨q3, cs ++ [c], _, rfl, hb', by rw [List.map_append]; rfl, by rw [List.length_append, hl]; rfl, ?_⟩
    rw [List.all_append, hc, Bool.true_and]
    rw [List.all_eq_true] at hx
    simp only [List.all_cons, List.all_nil, Bool.and_true]
    exact hx c hm
  · rintro acc e ⟨q, cs, y14, rfl, hb, rfl, hl, hc⟩
    rw [List.length_map, List.length_range] at hl
    repeat' l_ints
    refine ⟨_, _, rfl, join_cs (by omega), ?_⟩
    exact h q cs hb (by omega) hc
end K60

set_option Elab.async false
set_option linter.all false
set_option maxRecDepth 100000
set_option maxHeartbeats 2000000
namespace K60
open PySem Dz
local macro_rules | `(tactic| l_ints) => `(tactic| first
  | (with_reducible refine x_cons ?_)
  | (with_reducible refine x_nil ?_) | (with_reducible refine i_e ?_) | (with_reducible refine i_r1 ?_) | (with_reducible refine i_r2 ?_) | (with_reducible refine i_ez ?_) | (with_reducible refine c_turn ?_) | (with_reducible refine c_nil ?_) | (with_reducible refine c_one ?_)
  | (with_reducible refine s_asg ?_)
  | (with_reducible refine s_asgT ?_)
  | (with_reducible refine s_par ?_)
  | (with_reducible refine s_if ?_)
  | (with_reducible refine s_raise ?_)
  | (with_reducible refine s_expr ?_)
  | ((with_reducible refine s_ret ?e1 ?k1); (case e1 => exact fun _ => rfl))
  | (with_reducible refine e_cst ?_)
  | (with_reducible refine e_bin ?_)
  | (with_reducible refine e_cmp ?_)
  | (with_reducible refine e_idx ?_)
  | (with_reducible refine e_slc ?_)
  | (with_reducible refine e_rev ?_)
  | (with_reducible refine e_and ?_)
  | (with_reducible refine e_ite ?_)
  | (with_reducible refine e_tup ?_)
  | (with_reducible refine e_lst ?_)
  | (with_reducible refine e_bi ?_)
  | (with_reducible refine e_neg ?_)
  | (with_reducible refine e_meth ?_)
  | (with_reducible refine t_cmp ?_) | (with_reducible refine g_tp ?_) | (with_reducible refine g_cons ?_) | (with_reducible refine g_nil ?_) | ((with_reducible refine' g_nm ?e1 ?e2 ?k1); (case e1 => exact rfl); (case e2 => exact Nat.le_of_ble_eq_true rfl))
  | (with_reducible refine t_and ?_)
  | (with_reducible refine t_or ?_)
  | (with_reducible refine t_not ?_) | (with_reducible refine t_call ?_) | (with_reducible refine ifNT ?_) | (with_reducible refine ifNF ?_)
  | (with_reducible refine s_nil ?_)
  | (with_reducible refine s_cons ?_)
  | (with_reducible refine o_nil ?_)
  | (with_reducible refine o_cons ?_)
  | (with_reducible refine a_nil ?_)
  | (with_reducible refine a_val ?_)
  | (with_reducible refine p_abs ?_)
  | ((with_reducible refine' e_call (ms := [true, false]) ?e1 ?e2 ?k1); (case e1 => exact rfl); (case e2 => exact rfl)) | ((with_reducible refine' e_call (ms := [false, false]) ?e1 ?e2 ?k1); (case e1 => exact rfl); (case e2 => exact rfl)) | ((with_reducible refine' e_call (ms := [false]) ?e1 ?e2 ?k1); (case e1 => exact rfl); (case e2 => exact rfl))
  | (with_reducible refine ifT ?_) | (with_reducible refine ifF ?_)
  | ((with_reducible refine ifdR ?h1 ?k1); (case h1 => with_reducible rfl))
  | ((with_reducible refine ifdN ?h1 ?k1); (case h1 => exact lneq (by decide)))
  | (with_reducible refine ifd (fun _ => ?_) (fun _ => ?_))
  | ((with_reducible refine' e_var ?e1 ?o1 ?k1); (case e1 => first | exact rfl | exact fun _ => rfl); (case o1 => first | exact rfl | exact fun _ => rfl))
  | ((with_reducible refine' s_retv ?e1 ?o1 ?k1); (case e1 => first | exact rfl | exact fun _ => rfl); (case o1 => first | exact rfl | exact fun _ => rfl))
  | ((with_reducible refine' r_var ?e1 ?k1); (case e1 => first | exact rfl | exact fun _ => rfl))
  | ((with_reducible refine' a_var ?e1 ?k1); (case e1 => first | exact rfl | exact fun _ => rfl))
  | ((with_reducible refine' r_val ?e1 ?k1); (case e1 => first | exact rfl | exact fun _ => rfl))
  | ((with_reducible refine' p_val ?e1 ?k1); (case e1 => first | exact rfl | exact fun _ => rfl))
  | ((with_reducible refine' s_augIx ?e1 ?k1); (case e1 => exact rfl)) | (with_reducible refine s_setIx ?_) | ((with_reducible refine' s_mut ?e1 ?k1); (case e1 => exact rfl)) | ((with_reducible refine' e_varO ?e1 ?e2 ?k1); (case e1 => exact rfl); (case e2 => exact rfl)) | ((with_reducible refine' s_retO ?e1 ?e2 ?k1); (case e1 => exact rfl); (case e2 => exact rfl)) | ((with_reducible refine' s_aug ?e1 ?k1); (case e1 => exact rfl))
  | ((with_reducible refine' ⟨_, _, _, _, ?a1, ?a2, ?a3, ?a4, ?k1⟩); (case a1 => exact rfl); (case a2 => exact rfl); (case a3 => exact rfl); (case a4 => exact rfl))
  | ((with_reducible refine' ⟨_, _, ?a1, ?a2, _, ?a3, ?k1⟩); (case a1 => exact rfl); (case a2 => exact rfl); (case a3 => exact rfl))
  | ((with_reducible refine' ⟨⟨_, ?a1⟩, ?k1⟩); (case a1 => exact rfl))
  | ((with_reducible refine' ⟨_, _, _, ?a1, ?a2, ?a3, ?k1⟩); (case a1 => exact rfl); (case a2 => exact rfl); (case a3 => first | exact rfl | exact pow18 | (refine mulR ?_; decide +kernel) | (refine mulL ?_; decide +kernel) | (refine mulR ?_; exact small_mod) | (refine modV ?_ <;> omega) | (refine fdivV ?_ ?_ <;> omega) | (refine addS ?_; simp only [List.length_append, List.length_take, List.length_drop]; omega)))
  | ((with_reducible refine' ⟨_, _, ?a1, ?a2, ?k1⟩); (case a1 => exact rfl); (case a2 => first | exact rfl | (refine lenS ?_ <;> omega) | (refine slcTo ?_ ?_ <;> omega) | (refine slcFrom ?_ ?_ <;> omega) | (refine slcMid ?_ ?_ ?_ <;> omega) | (refine slcLTo ?_ <;> omega) | (refine slcLFrom ?_ <;> omega)))
  | ((with_reducible refine' ⟨_, ?a1, ?k1⟩); (case a1 => exact rfl))
  | ((with_reducible refine ⟨?a1, ?a2, ?k1⟩); (case a1 => exact rfl); (case a2 => exact Nat.le_of_ble_eq_true rfl))
  | ((with_reducible refine' ⟨?a1, ?k1⟩); (case a1 => first | exact rfl | exact Nat.le_of_ble_eq_true rfl))
  | (with_reducible exact Nat.le_of_ble_eq_true rfl)
  | fail "no step")

theorem pairs_of {s t : List Nat} : ∀ {L : List D}, (∀ d ∈ L, ∃ b e, d = pr b e ∧ BP s t b e) → ∃ ps : List (Nat × Nat), L = ps.map (fun p => pr p.1 p.2) ∧ ∀ p ∈ ps, BP s t p.1 p.2
  | [], _ => ⟨[], rfl, fun p h => (List.not_mem_nil h).elim⟩
  | d :: L, h => by
    obtain ⟨ps, rfl, hp⟩ := pairs_of fun x hx => h x (List.mem_cons_of_mem _ hx)
    obtain ⟨b, e, rfl, hb⟩ := h d (List.mem_cons_self ..)
    exact ⟨(b, e) :: ps, rfl, fun p hp' => (List.mem_cons.mp hp').elim (fun q => q ▸ hb) (hp p)⟩
theorem intsE : ∀ (xs : List Nat), intsOf (xs.map fun (x : Nat) => D.int x) = some (xs.map fun (x : Nat) => (x : Int))
  | [] => rfl
  | x :: xs => by
    show (intsOf (xs.map fun (x : Nat) => D.int x)).map ((x : Int) :: ·) = _
    rw [intsE xs]
    rfl
theorem foldMax : ∀ (xs : List Int) (a m : Int), a ≤ m → (∀ x ∈ xs, x ≤ m) → (a = m ∨ m ∈ xs) → xs.foldl (fun m y => if m < y then y else m) a = m
  | [], a, m, _, _, h => by rcases h with h | h; exact h; cases h
  | x :: xs, a, m, ha, hx, h => by
    have h1 := hx x (List.mem_cons_self ..)
    refine foldMax xs _ m (by dsimp only; split <;> assumption) (fun y hy => hx y (List.mem_cons_of_mem _ hy)) ?_
    rcases h with h | h
    · subst h; left; dsimp only; rw [if_neg (by omega)]
    · rcases List.mem_cons.mp h with h | h
      · left; dsimp only; split <;> omega
      · right; exact h
theorem foldMin : ∀ (xs : List Int) (a m : Int), m ≤ a → (∀ x ∈ xs, m ≤ x) → (a = m ∨ m ∈ xs) → xs.foldl (fun m y => if y < m then y else m) a = m
  | [], a, m, _, _, h => by rcases h with h | h; exact h; cases h
  | x :: xs, a, m, ha, hx, h => by
    have h1 := hx x (List.mem_cons_self ..)
    refine foldMin xs _ m (by dsimp only; split <;> assumption) (fun y hy => hx y (List.mem_cons_of_mem _ hy)) ?_
    rcases h with h | h
    · subst h; left; dsimp only; rw [if_neg (by omega)]
    · rcases List.mem_cons.mp h with h | h
      · left; dsimp only; split <;> omega
      · right; exact h
theorem maxE {xs : List Nat} {m : Nat} (h : m ∈ xs) (hx : ∀ x ∈ xs, x ≤ m) : biD .max [.lst (xs.map fun (x : Nat) => D.int x)] = some (.int m) := by
  show ((intsOf (xs.map fun (x : Nat) => D.int x)).bind fun ns => (maxL ns).map D.int) = _
  rw [intsE]
  cases xs with
  | nil => cases h
  | cons a xs =>
    show some (D.int ((xs.map fun (x : Nat) => (x : Int)).foldl (fun m y => if m < y then y else m) (a : Int))) = _
    rw [foldMax _ _ (m : Int) (by have := hx a (List.mem_cons_self ..); omega) (fun y hy => by
      obtain ⟨z, hz, rfl⟩ := List.mem_map.mp hy
      have := hx z (List.mem_cons_of_mem _ hz); omega) (by
      rcases List.mem_cons.mp h with h | h
      · left; rw [h]
      · right; exact List.mem_map.mpr ⟨m, h, rfl⟩)]
theorem minE {xs : List Nat} {m : Nat} (h : m ∈ xs) (hx : ∀ x ∈ xs, m ≤ x) : biD .min [.lst (xs.map fun (x : Nat) => D.int x)] = some (.int m) := by
  show ((intsOf (xs.map fun (x : Nat) => D.int x)).bind fun ns => (minL ns).map D.int) = _
  rw [intsE]
  cases xs with
  | nil => cases h
  | cons a xs =>
    show some (D.int ((xs.map fun (x : Nat) => (x : Int)).foldl (fun m y => if y < m then y else m) (a : Int))) = _
    rw [foldMin _ _ (m : Int) (by have := hx a (List.mem_cons_self ..); omega) (fun y hy => by
      obtain ⟨z, hz, rfl⟩ := List.mem_map.mp hy
      have := hx z (List.mem_cons_of_mem _ hz); omega) (by
      rcases List.mem_cons.mp h with h | h
      · left; rw [h]
      · right; exact List.mem_map.mpr ⟨m, h, rfl⟩)]
theorem ifFe {b : Bool} {A B : Prop} (h : b = false) (k : B) : if b = true then A else B := by subst h; exact k
theorem law2 {q : D} {x0 x2 x3 x4 x5 x6 x7 x8 x9 x10 x11 x12 x13 : Option D} (hb : BagOk (.own q)) :
    Xs Glaw lawB2 [x0, some (.own q), x2, x3, x4, x5, x6, x7, x8, x9, x10, x11, x12, x13, none, none]
      (fun o => ∃ q' y7 y8 y9 y10 y11 y12 y13, BagOk (.own q') ∧ o = .nx [x0, some (.own q'), x2, x3, x4, x5, x6, y7, y8, y9, y10, y11, y12, y13, none, none]) := by
  unfold lawB2 s_law
  dsimp only
  refine x_cons (s_asg ?_)
  repeat' l_ints
  refine ⟨by simp [places], _, rfl, Rn.imp (run_one hb (Nat.le_of_ble_eq_true rfl) (Nat.le_of_ble_eq_true rfl)) ?_ fun _ _ _ z => z.elim⟩
  rintro v os ⟨d', hm, rfl, hb⟩
  obtain ⟨q1, rfl⟩ := bag_own hb
  obtain ⟨sg, rfl, h1, h2, hx⟩ : ∃ t, v = .str t ∧ 1 ≤ t.length ∧ t.length < 100 ∧ t.all (· < 0x110000) = true := by
    simp only [List.mem_cons, List.not_mem_nil, or_false, D.fz] at hm
    rcases hm with rfl | rfl | rfl <;> exact ⟨_, rfl, by decide, by decide, by decide⟩
  refine ⟨_, rfl, rfl, Nat.le_of_ble_eq_true rfl, ?_⟩
  refine x_cons (s_asg (draw_text hb h1 h2 hx ?_))
  intro q2 s hb hs hsx
  refine ⟨rfl, Nat.le_of_ble_eq_true rfl, ?_⟩
  refine x_cons (s_asg (draw_text hb h1 h2 hx ?_))
  intro q3 t0 hb ht0 htx0
  refine ⟨rfl, Nat.le_of_ble_eq_true rfl, ?_⟩
  refine x_cons ?_
  refine Xo.imp (Q := fun o => ∃ q t, BagOk (.own q) ∧ t.length ≤ 6 ∧ t.all (· < 0x110000) = true ∧ o = .nx [x0, some (.own q), x2, x3, x4, x5, x6, some (.str sg), some (.str s), some (.str t), x10, x11, x12, x13, none, none]) ?_ ?_
  · show X1 _ _ _ _
    repeat' l_ints
    refine ⟨by simp [places], _, rfl, Rn.imp (run_take hb (m := 4) (by decide) (by decide)) ?_ fun _ _ _ z => z.elim⟩
    rintro v os ⟨n, d', rfl, g0, g1, rfl, hb⟩
    obtain ⟨q4, rfl⟩ := bag_own hb
    refine ⟨_, rfl, ?_⟩
    repeat' l_ints
    · exact ⟨q4, s, hb, hs, hsx, rfl⟩
    · exact ⟨q4, t0, hb, ht0, htx0, rfl⟩
  rintro o ⟨q4, t, hb, ht, htx, rfl⟩
  repeat' l_ints
  refine ⟨by simp [places], _, rfl, Rn.imp (run_all (s := s) (t := t) (by omega) (by omega)) ?_ fun _ _ _ z => z.elim⟩
  rintro v os ⟨L, rfl, hF, hL, rfl⟩
  obtain ⟨ps, rfl, hps⟩ := pairs_of hF.1
  rw [List.length_map] at hL
  have l1 := lcp_le s t
  have l2 := lcs_le s t
  have hbest : (lcp s t, s.length - lcs s t) ∈ ps := by
    have := hF.2 _ _ (bp_best s t) trivial
    obtain ⟨p, hp, e⟩ := List.mem_map.mp this
    unfold pr at e
    injection e with e
    injection e with e1 e2
    injection e2 with e2 _
    injection e1 with e1
    injection e2 with e2
    have : p = (lcp s t, s.length - lcs s t) := by ext <;> simp <;> omega
    rw [← this]; exact hp
  refine ⟨_, rfl, ?_⟩
  repeat' l_ints
  refine ⟨by simp [places], _, rfl, Rn.imp (run_between (s := s) (t := t) (by omega) (by omega)) ?_ fun _ _ _ z => z.elim⟩
  rintro v os ⟨rfl, rfl⟩
  refine ⟨_, rfl, ?_⟩
  repeat' l_ints
  refine e_comp ?_
  repeat' l_ints
  refine ⟨fun k acc e => ∃ y, e = [x0, some (.own q4), x2, x3, x4, x5, x6, some (.str sg), some (.str s), some (.str t), some (.lst (ps.map fun p => pr p.1 p.2)), some (chD (btw s t)), x12, x13, none, y] ∧ acc = ((ps.take k).map (·.1)).map (fun (x : Nat) => D.int x), ⟨_, rfl, rfl⟩, ?_, ?_⟩
  · rintro k d acc e hd ⟨y, rfl, rfl⟩
    obtain ⟨p, hp, rfl⟩ : ∃ p, ps[k]? = some p ∧ d = pr p.1 p.2 := by
      rw [List.getElem?_map] at hd
      obtain ⟨p, h1, h2⟩ := Option.map_eq_some_iff.mp hd
      exact ⟨p, h1, h2.symm⟩
    unfold pr
    repeat' l_ints
    refine ⟨by simp only [List.length_map, List.length_take]; unfold lim; omega, _, rfl, ?_⟩
    rw [List.take_add_one, hp, List.map_append, List.map_append]
    rfl
  · rintro acc e ⟨y, rfl, rfl⟩
    rw [List.length_map, List.take_length]
    repeat' l_ints
    refine ⟨_, _, rfl, maxE (m := lcp s t) (List.mem_map.mpr ⟨_, hbest, rfl⟩) (fun x hx => by
      obtain ⟨p, hp, rfl⟩ := List.mem_map.mp hx
      exact bp_begin (hps p hp)), ?_⟩
    repeat' l_ints
    refine e_comp ?_
    repeat' l_ints
    refine ⟨fun k acc e => ∃ y, e = [x0, some (.own q4), x2, x3, x4, x5, x6, some (.str sg), some (.str s), some (.str t), some (.lst (ps.map fun p => pr p.1 p.2)), some (chD (btw s t)), some (.int (lcp s t)), x13, none, y] ∧ acc = (((ps.take k).filter (fun p => decide (p.1 = lcp s t))).map (·.2)).map (fun (x : Nat) => D.int x), ⟨_, rfl, rfl⟩, ?_, ?_⟩
    · rintro k d acc e hd ⟨y, rfl, rfl⟩
      obtain ⟨p, hp, rfl⟩ : ∃ p, ps[k]? = some p ∧ d = pr p.1 p.2 := by
        rw [List.getElem?_map] at hd
        obtain ⟨p, h1, h2⟩ := Option.map_eq_some_iff.mp hd
        exact ⟨p, h1, h2.symm⟩
      unfold pr
      repeat' l_ints
      · rename_i z
        have z : p.1 = lcp s t := by
          have z : (p.1 : Int) = (lcp s t : Int) := z
          omega
        refine ⟨by
          have := List.length_filter_le (fun p => decide (p.1 = lcp s t)) (ps.take k)
          simp only [List.length_map, List.length_take] at this ⊢
          unfold lim; omega, _, rfl, ?_⟩
        rw [List.take_add_one, hp, List.filter_append, List.map_append, List.map_append]
        have e : List.filter (fun p => decide (p.1 = lcp s t)) (some p).toList = [p] := by
          show List.filter _ [p] = [p]
          rw [List.filter_cons, if_pos (decide_eq_true z)]
          rfl
        rw [e]
        rfl
      · rename_i z
        have z : ¬ p.1 = lcp s t := fun q => z (by show (p.1 : Int) = (lcp s t : Int); omega)
        rw [List.take_add_one, hp, List.filter_append]
        have e : List.filter (fun p => decide (p.1 = lcp s t)) (some p).toList = [] := by
          show List.filter _ [p] = []
          rw [List.filter_cons, if_neg (by rw [decide_eq_false z]; decide)]
          rfl
        rw [e, List.append_nil]
    · rintro acc e ⟨y, rfl, rfl⟩
      rw [List.length_map, List.take_length]
      repeat' l_ints
      refine ⟨_, _, rfl, minE (m := s.length - lcs s t) (List.mem_map.mpr ⟨_, List.mem_filter.mpr ⟨hbest, decide_eq_true rfl⟩, rfl⟩) (fun x hx => by
        obtain ⟨p, hp, rfl⟩ := List.mem_map.mp hx
        obtain ⟨hp, hq⟩ := List.mem_filter.mp hp
        have hq : p.1 = lcp s t := of_decide_eq_true hq
        have := hps p hp
        rw [hq] at this
        exact bp_end this), ?_⟩
      repeat' l_ints
      refine ⟨by simp [places], _, rfl, Rn.imp (run_cb2 (s := s) (t := t) (by omega) (by omega)) ?_ fun _ _ _ z => z.elim⟩
      rintro v os ⟨rfl, rfl⟩
      refine ⟨_, rfl, ?_⟩
      repeat' l_ints
      have bl : ((t.drop (lcp s t)).take (t.length - lcs s t - lcp s t)).length ≤ 20 := by rw [List.length_take, List.length_drop]; omega
      have bx : ((t.drop (lcp s t)).take (t.length - lcs s t - lcp s t)).all (· < 0x110000) = true := by
        rw [List.all_eq_true] at htx ⊢
        exact fun x h => htx x (List.mem_of_mem_drop (List.mem_of_mem_take h))
      have fb : Fine (chD (btw s t)) := fine_ch3 (b := (lcp s t : Nat)) (e := (s.length : Int) - (lcs s t : Nat)) (s := (t.drop (lcp s t)).take (t.length - lcs s t - lcp s t)) (by omega) (by omega) (by omega) (by omega) (by omega) bx
      refine ⟨by simp [places], _, rfl, Rn.imp (run_alike fb) ?_ fun _ _ _ z => z.elim⟩
      rintro v os ⟨rfl, rfl⟩
      refine ⟨_, rfl, ?_⟩
      repeat' l_ints
      refine ifFe ?_ ?_
      · show (!(PyData.eqv (D.tup [.int (lcp s t : Nat), .int ((s.length : Int) - (lcs s t : Nat))]).py (D.tup [.int (lcp s t : Nat), .int (s.length - lcs s t : Nat)]).py)) = false
        rw [show (s.length : Int) - (lcs s t : Nat) = ((s.length - lcs s t : Nat) : Int) by omega]
        simp [D.py, D.pys, PyData.eqv, PyData.eqvAll]
      repeat' l_ints
      refine ⟨by simp [places], _, rfl, Rn.imp (run_changed (t := s) (s := (t.drop (lcp s t)).take (t.length - lcs s t - lcp s t)) (b := (lcp s t : Nat)) (e := (s.length : Int) - (lcs s t : Nat)) (by omega) (by omega) (by omega) (by omega)) ?_ fun _ _ _ h => absurd h.1 (by omega)⟩
      rintro v os ⟨_, rfl, rfl⟩
      have cb := chg_btw s t
      refine ⟨_, rfl, ?_⟩
      repeat' l_ints
      refine ⟨by simp [places], _, rfl, ?_⟩
      have ee : D.str (List.take ((lcp s t : Nat) : Int).toNat s ++ (t.drop (lcp s t)).take (t.length - lcs s t - lcp s t) ++ List.drop ((s.length : Int) - (lcs s t : Nat)).toNat s) = .str t := congrArg D.str cb
      rw [ee]
      refine Rn.imp (run_alike (fine_str (by omega) htx)) ?_ fun _ _ _ z => z.elim
      rintro v os ⟨rfl, rfl⟩
      refine ⟨_, rfl, ?_⟩
      repeat' l_ints
      exact ⟨q4, _, _, _, _, _, _, _, hb, rfl⟩
theorem run_law {ns : List Int} (h : ns.length ≤ 63) : Rn Flaw [.lst (ns.map .int)] (fun v os => v = .bl true ∧ os = [.lst (ns.map .int)]) (fun _ _ _ => False) := by
  refine fn_run rfl ?_
  show Xs Glaw s_law _ _
  unfold s_law
  refine x_cons (s_asg ?_)
  repeat' l_ints
  refine ⟨by simp [places], _, rfl, Rn.imp (run_bag h) ?_ fun _ _ _ z => z.elim⟩
  rintro v os ⟨hb, rfl⟩
  obtain ⟨q, rfl⟩ := bag_own hb
  refine ⟨_, rfl, rfl, Nat.le_of_ble_eq_true rfl, ?_⟩
  refine x_cons (Xo.imp (Q := fun o => ∃ q y2 y3 y4 y5 y6, BagOk (.own q) ∧ o = .nx [some (.lst (ns.map .int)), some (.own q), y2, y3, y4, y5, y6, none, none, none, none, none, none, none, none, none]) ?_ ?_)
  · show X1 _ _ _ _
    refine s_for (i_r1 (e_cst ⟨4, rfl, by decide, fun k e => ∃ q y2 y3 y4 y5 y6, e = [some (.lst (ns.map .int)), some (.own q), y2, y3, y4, y5, y6, none, none, none, none, none, none, none, none, none] ∧ BagOk (.own q), ⟨_, _, _, _, _, _, rfl, hb⟩, ?_, ?_⟩))
    · rintro k d e hk ⟨q, y2, y3, y4, y5, y6, rfl, hb⟩
      refine g_nm rfl (Nat.le_of_ble_eq_true rfl) ?_
      refine Xo.imp (law1 hb) ?_
      rintro o ⟨q', z3, z4, z5, z6, hb', rfl⟩
      exact ⟨q', _, _, _, _, _, rfl, hb'⟩
    · rintro e ⟨q, y2, y3, y4, y5, y6, rfl, hb⟩
      exact ⟨q, _, _, _, _, _, hb, rfl⟩
  rintro o ⟨q, y2, y3, y4, y5, y6, hb, rfl⟩
  refine x_cons (Xo.imp (Q := fun o => ∃ q y2 y3 y4 y5 y6 y7 y8 y9 y10 y11 y12 y13, BagOk (.own q) ∧ o = .nx [some (.lst (ns.map .int)), some (.own q), y2, y3, y4, y5, y6, y7, y8, y9, y10, y11, y12, y13, none, none]) ?_ ?_)
  · show X1 _ _ _ _
    refine s_for (i_r1 (e_cst ⟨6, rfl, by decide, fun k e => ∃ q y2 y3 y4 y5 y6 y7 y8 y9 y10 y11 y12 y13, e = [some (.lst (ns.map .int)), some (.own q), y2, y3, y4, y5, y6, y7, y8, y9, y10, y11, y12, y13, none, none] ∧ BagOk (.own q), ⟨_, _, _, _, _, _, _, _, _, _, _, _, _, rfl, hb⟩, ?_, ?_⟩))
    · rintro k d e hk ⟨q, y2, y3, y4, y5, y6, y7, y8, y9, y10, y11, y12, y13, rfl, hb⟩
      refine g_nm rfl (Nat.le_of_ble_eq_true rfl) ?_
      refine Xo.imp (law2 hb) ?_
      rintro o ⟨q', z7, z8, z9, z10, z11, z12, z13, hb', rfl⟩
      exact ⟨q', _, _, _, _, _, _, _, _, _, _, _, _, rfl, hb'⟩
    · rintro e ⟨q, y2, y3, y4, y5, y6, y7, y8, y9, y10, y11, y12, y13, rfl, hb⟩
      exact ⟨q, _, _, _, _, _, _, _, _, _, _, _, _, hb, rfl⟩
  rintro o ⟨q, y2, y3, y4, y5, y6, y7, y8, y9, y10, y11, y12, y13, hb, rfl⟩
  repeat' l_ints
  exact ⟨_, rfl, rfl, rfl⟩
end K60

set_option Elab.async false
set_option linter.all false
set_option maxRecDepth 100000
set_option maxHeartbeats 4000000
namespace K60
open PySem PySem.Spec PyProof.Rows L2 Dz LamX
/-- the text of NoChange's own start -/
def initSt : Stmt := match top 2 with
  | .ClassDef _ _ _ b _ _ _ _ _ _ _ => b.getD 0 (.Pass ⟨0, 0, 0, 0⟩)
  | s => s
theorem init_txt : PySem.Dzx.InitTxt "change" (defArgs initSt) (defBody initSt) (defScope initSt) where
  ar := ⟨_, _, rfl⟩
  bd := ⟨_, _, _, _, _, _, _, _, _, _, rfl, rfl⟩
  su := by decide +kernel
  cl := by decide +kernel
  se := by decide +kernel
  fl := by decide +kernel
  kind := by decide +kernel
  co := by decide +kernel
  gen := by decide +kernel
  noc := by decide +kernel
  ne := by decide +kernel
  db := by decide +kernel
theorem sc_heard : FnScope ["_law_act", "e"] ["_law_act"] (defScope (top 16)) := ⟨rfl, rfl, rfl, by decide +kernel, rfl, by decide +kernel, by decide +kernel⟩
abbrev PP : Program := PySem.Challenge.pw_leastlaid_k60_texts_changed
def ecK (C : Addr) : Nat → Option (Addr × Str) := fun c => if c = 0 then some (C, "change") else none
def qL : Str := ("law" ++ ".<locals>.") ++ "<lambda>"
def qR : Str := ("_law_rows_right" ++ ".<locals>.") ++ "<lambda>"
def tbK (Pl Pr : Addr) : Tb := [(Pl, qL), (Pr, qR)]
/-- what a def's line says -/
structure DefF (K : PySem.W.Frag) (mg : Str → Option Value) (x : Str) (st : Stmt) (ps : List Str) (f : Addr) (fd : FuncData) : Prop where
  U : L2.Fun K x x st f fd
  b : Binds K fd ps []
  g : mg x = some (.ref f)
/-- what the top has written -/
structure Fcs (K : PySem.W.Frag) (mg : Str → Option Value) (C fI L cl Pl cr Pr fl fr : Addr) (dl dr : FuncData) : Prop where
  E : PySem.Dzx.ExT PP K mg "NoChange" C fI "change"
  noF : PySem.W.findIn K (.ref C) "change" = some none
  gL : mg "LaidError" = some (.ref L)
  exm : PySem.W.exmOne K (.ref C) (.ref C) = some true
  blt : ∀ f, mg (biV f).1 = none
  rng : mg "range" = none
  enu : mg "enumerate" = none ∧ mg "zip" = none
  hl : PySem.W.codeHdIn K cl Pl = true
  hr : PySem.W.codeHdIn K cr Pr = true
  nl : K.lookup Pl = none
  nr : K.lookup Pr = none
  ne : Pl ≠ Pr
  D0 : ∃ f fd, DefF K mg "changed" (top 4) ["text", "change"] f fd
  D1 : ∃ f fd, DefF K mg "changed_by" (top 5) ["text", "changes"] f fd
  D2 : ∃ f fd, DefF K mg "common_begin" (top 6) ["one", "other"] f fd
  D3 : ∃ f fd, DefF K mg "change_between" (top 7) ["one", "other"] f fd
  D4 : ∃ f fd, DefF K mg "back_of" (top 8) ["text", "change"] f fd
  D5 : ∃ f fd, DefF K mg "_law_bag" (top 10) ["_law_script"] f fd
  D6 : ∃ f fd, DefF K mg "_law_take" (top 11) ["_law_bag_here", "_law_many"] f fd
  D7 : ∃ f fd, DefF K mg "_law_one" (top 12) ["_law_bag_here", "_law_things"] f fd
  D8 : ∃ f fd, DefF K mg "_law_alike" (top 13) ["_law_found", "_law_due"] f fd
  D9 : ∃ f fd, DefF K mg "_law_changed" (top 14) ["_law_text", "_law_change"] f fd
  D10 : ∃ f fd, DefF K mg "_law_change_between" (top 15) ["_law_one_here", "_law_other"] f fd
  D11 : ∃ f fd, DefF K mg "_law_drawn_change" (top 17) ["_law_bag_here", "_law_many"] f fd
  D12 : DefF K mg "_law_rows_right" (top 18) ["_law_bag_here", "_law_text"] fr dr
  C12 : ∃ oc od osl, K.lookup fr = some ⟨oc, od, .func dr, osl⟩ ∧ dr.code = .ref cr
  D13 : ∃ f fd, DefF K mg "_law_all_between" (top 19) ["_law_one_here", "_law_other"] f fd
  D14 : DefF K mg "law" (top 20) ["_law_script"] fl dl
  C14 : ∃ oc od osl, K.lookup fl = some ⟨oc, od, .func dl, osl⟩ ∧ dl.code = .ref cl
  D15 : ∃ f oc od osl kV doc pm an cdv ct, K.lookup f = some ⟨oc, od, .func (PySem.W.fnOf "_law_heard" "_law_heard" (defArgs (top 16)) (defBody (top 16)) (defScope (top 16)) .none kV doc pm an cdv ct), osl⟩ ∧ PySem.W.codeIn K cdv "_law_heard" = true ∧ DefF K mg "_law_heard" (top 16) ["_law_act"] f (PySem.W.fnOf "_law_heard" "_law_heard" (defArgs (top 16)) (defBody (top 16)) (defScope (top 16)) .none kV doc pm an cdv ct)
section
variable {w : World} {K : PySem.W.Frag} {mg : Str → Option Value} {base : Heap} {C fI L cl Pl cr Pr fl fr : Addr} {dl dr : FuncData}
theorem topp (F : Fcs K mg C fI L cl Pl cr Pr fl fr dl dr) : Topp ["NoChange"] PP w K mg base (ecK C) where
  blt := F.blt
  rng := F.rng
  enu := F.enu
  mkx := fun X k a1 a2 a3 a4 a5 a6 hr c x hc => by
    cases c with
    | zero =>
      cases hc
      exact ⟨C, "change", rfl, fun hg => mkx_of (k := k) (by rw [a1, a3, a4]; exact F.E) hr hg (by decide)⟩
    | succ c => simp at hc
/-- the tellers' clauses -/
def cls2 (C L : Addr) : List CS := [⟨"NoChange", C, some ("e", 1, "change"), "none"⟩, ⟨"LaidError", L, none, "other"⟩]
theorem tell_ok (F : Fcs K mg C fI L cl Pl cr Pr fl fr dl dr) : TellOk K (ecK C) 2 (cls2 C L) "told" Heard where
  told := fun d => rfl
  exn := fun c A f h => by
    unfold ecK at h
    split at h
    · cases h
      refine ⟨⟨F.E.ga, F.E.gg, F.E.exC, F.E.hdC⟩, F.noF, ⟨"NoChange", C, some ("e", 1, "change"), "none"⟩, ?_, ?_, ?_⟩
      · unfold cls2 caught
        simp only [F.exm]
      · rintro n i f' h
        cases h
        exact ⟨rfl, by decide⟩
      · intro d
        rfl
    · cases h
theorem heard (F : Fcs K mg C fI L cl Pl cr Pr fl fr dl dr) {lv : Nat} {Γ : Sig} {f c P : Addr} {fd : FuncData} {qual : Str} (hΓ : Γ.told 0 = some Heard) (hc : ∃ oc od osl, K.lookup f = some ⟨oc, od, .func fd, osl⟩ ∧ fd.code = .ref c) (TB : TabB base mg c P)
    (mem : (P, (qual ++ ".<locals>.") ++ "<lambda>") ∈ tbK Pl Pr) (un : ∀ p ∈ tbK Pl Pr, p.1 = P → p.2 = (qual ++ ".<locals>.") ++ "<lambda>") : Hrd Zt Γ lv PP w K mg base (tbK Pl Pr) (ecK C) f qual := by
  intro X B a1 a2 a3 a4 a5 a6 a7 hg hr hcode hq k x hx
  subst a2 a3 a4 a5
  cases k with
  | zero =>
    cases hx
    obtain ⟨g, oc, od, osl, kV, doc, pm, an, cdv, ct, lk, hcd, DF⟩ := F.D15
    have code : X.env.code = .ref c := by
      obtain ⟨oc, od, fd', osl, h1, h2⟩ := hcode
      obtain ⟨oc', od', osl', h3, h4⟩ := hc
      rw [h1] at h3
      cases h3
      rw [← h2, h4]
    refine heard_at (a := "_law_act") (t := "told") (F := Heard) (l := cls2 C L) (Ng := ["_law_act", "e"]) (hds := _) (hd := _) hΓ hg hr DF.g DF.U.kp lk hcd DF.b sc_heard rfl (.inl (by decide +kernel)) (by decide +kernel) rfl ?_ ?_ TB code ?_ ?_ (by decide)
    · exact .named (by decide +kernel) (by decide) F.E.gC rfl (by decide +kernel) (by decide +kernel) (.plain (by decide +kernel) (by decide) F.gL .nil)
    · rw [a7]
      exact tell_ok F
    · rw [a6, hq]
      exact mem
    · rw [a6, hq]
      exact un
  | succ k => simp [Zt] at hx
theorem chain (F : Fcs K mg C fI L cl Pl cr Pr fl fr dl dr) (TBl : TabB base mg cl Pl) (TBr : TabB base mg cr Pr) : FnG PP w K mg base 45 fl dl ["_law_script"] (spF (cf0 K (tbK Pl Pr) (ecK C)) Flaw) := by
  have Tp : Topp ["NoChange"] PP w K mg base (ecK C) := topp F
  have r0 : FnsOk fs PP w K mg base (tbK Pl Pr) (ecK C) 0 [] := fns_nil
  obtain ⟨f0, d0, D0⟩ := F.D0
  have r1 := fns_step (Γ := Sg [] [] 0 [false, false]) (muts := [false, false]) r0 Tp (fun k F h => h) D0.U D0.b D0.g sc_changed tr_changed (fun _ => rfl) rfl (no_hrd rfl) rfl
  obtain ⟨f1, d1, D1⟩ := F.D1
  have r2 := fns_step (Γ := Sg [Fchanged] [] 0 [false, false]) (muts := [false, false]) r1 Tp (fun k F h => h) D1.U D1.b D1.g sc_changed_by tr_changed_by (fun _ => rfl) rfl (no_hrd rfl) rfl
  obtain ⟨f2, d2, D2⟩ := F.D2
  have r3 := fns_step (Γ := Sg [Fchanged, Fchanged_by] [] 0 [false, false]) (muts := [false, false]) r2 Tp (fun k F h => h) D2.U D2.b D2.g sc_common_begin tr_common_begin (fun _ => rfl) rfl (no_hrd rfl) rfl
  obtain ⟨f3, d3, D3⟩ := F.D3
  have r4 := fns_step (Γ := Sg P2 [] 0 [false, false]) (muts := [false, false]) r3 Tp (fun k F h => h) D3.U D3.b D3.g sc_change_between tr_change_between (fun _ => rfl) rfl (no_hrd rfl) rfl
  obtain ⟨f4, d4, D4⟩ := F.D4
  have r5 := fns_step (Γ := Sg (P2 ++ [Fbetween]) [] 0 [false, false]) (muts := [false, false]) r4 Tp (fun k F h => h) D4.U D4.b D4.g sc_back_of tr_back_of (fun _ => rfl) rfl (no_hrd rfl) rfl
  obtain ⟨f5, d5, D5⟩ := F.D5
  have r6 := fns_step (Γ := Sg (P2 ++ [Fbetween, Fback]) [] 0 [false]) (muts := [false]) r5 Tp (fun k F h => h) D5.U D5.b D5.g sc_law_bag tr_law_bag (fun _ => rfl) rfl (no_hrd rfl) rfl
  obtain ⟨f6, d6, D6⟩ := F.D6
  have r7 := fns_step (Γ := Sg [] [] 0 [true, false]) (muts := [true, false]) r6 Tp (fun k F h => by cases h) D6.U D6.b D6.g sc_law_take tr_law_take (fun _ => rfl) rfl (no_hrd rfl) rfl
  obtain ⟨f7, d7, D7⟩ := F.D7
  have r8 := fns_step (Γ := Sg P6 [] 0 [true, false]) (muts := [true, false]) r7 Tp (fun k F h => h) D7.U D7.b D7.g sc_law_one tr_law_one (fun _ => rfl) rfl (no_hrd rfl) rfl
  obtain ⟨f8, d8, D8⟩ := F.D8
  have r9 := fns_step (Γ := Sg (P6 ++ [Fone]) [] 0 [false, false]) (muts := [false, false]) r8 Tp (fun k F h => h) D8.U D8.b D8.g sc_law_alike tr_law_alike (fun _ => rfl) rfl (no_hrd rfl) rfl
  obtain ⟨f9, d9, D9⟩ := F.D9
  have r10 := fns_step (Γ := Sg (P6 ++ [Fone, Falike]) [] 0 [false, false]) (muts := [false, false]) r9 Tp (fun k F h => h) D9.U D9.b D9.g sc_law_changed tr_law_changed (fun _ => rfl) rfl (no_hrd rfl) rfl
  obtain ⟨f10, d10, D10⟩ := F.D10
  have r11 := fns_step (Γ := Sg (P6 ++ [Fone, Falike, Fchg]) [] 200 [false, false]) (muts := [false, false]) r10 Tp (fun k F h => h) D10.U D10.b D10.g sc_law_change_between tr_law_change_between (fun _ => rfl) rfl (no_hrd rfl) rfl
  obtain ⟨f11, d11, D11⟩ := F.D11
  have r12 := fns_step (Γ := Sg P10 [] 0 [true, false]) (muts := [true, false]) r11 Tp (fun k F h => h) D11.U D11.b D11.g sc_law_drawn_change tr_law_drawn_change (fun _ => rfl) rfl (no_hrd rfl) rfl
  have r13 := fns_step (Γ := Grows) (muts := [true, false]) r12 Tp (fun k F h => h) F.D12.U F.D12.b F.D12.g sc_law_rows_right tr_law_rows_right (fun _ => rfl) rfl (heard F rfl F.C12 TBr (List.mem_cons_of_mem _ (List.mem_cons_self ..)) (fun p hp e => by
    rcases List.mem_cons.mp hp with z | z
    · rw [z] at e; exact absurd e F.ne
    · rw [List.mem_singleton.mp z]; rfl)) rfl
  obtain ⟨f13, d13, D13⟩ := F.D13
  have r14 := fns_step (Γ := Sg [] [] 0 [false, false]) (muts := [false, false]) r13 Tp (fun k F h => by cases h) D13.U D13.b D13.g sc_law_all_between tr_law_all_between (fun _ => rfl) rfl (no_hrd rfl) rfl
  have G := def_ok (Γ := Glaw) (muts := [false]) (N := N_law) ⟨fun f F hf x hx => r14 f F hf x hx, Tp.blt, Tp.rng, Tp.enu, fun X a1 a2 a3 a4 a5 a6 a7 c x hc => Tp.mkx X _ a1 a2 a3 a4 a5 a6 a7 c x hc⟩ F.D14.U sc_law tr_law (fun _ => rfl) rfl (heard F rfl F.C14 TBl (List.mem_cons_self ..) (fun p hp e => by
    rcases List.mem_cons.mp hp with z | z
    · rw [z]; rfl
    · rw [List.mem_singleton.mp z] at e; exact absurd e.symm F.ne))
  exact G
end
end K60

set_option Elab.async false
set_option linter.all false
set_option maxRecDepth 100000
set_option maxHeartbeats 4000000
namespace K60
open PySem PySem.Spec PyProof.Rows L2 Dz LamX PySem.HandSPX
theorem rn_run {F : Fn} {args : List D} {R : List D → Prop} (h : Rn F args (fun v os => v = .bl true ∧ R os) (fun _ _ _ => False)) : ∃ outs, F.run args = some (.ret (.bl true) outs) := by
  unfold Rn at h
  split at h
  · rename_i d os hr
    obtain ⟨rfl, _⟩ := h
    exact ⟨os, hr⟩
  · exact h.elim
  · exact h.elim
theorem all_mk {w : World} {K : PySem.W.Frag} {h : Heap} {mg : Str → Option Value} {fa : Addr} {q : Program} (X : K.In h) (G : h.Ns mainGlobals mg) (hfa : mg "law" = some (.ref fa))
    (own : ∀ (nm : Str) (f : Addr), ((recsOf q).any fun e => e.name == nm) = true → mg nm = some (.ref f) → OwnTab K f h) (hq1 : ((recsOf q).any fun e => e.name == ("law" : Str)) = true) (hq2 : ((recsOf q).any fun e => e.name == ("_law_rows_right" : Str)) = true)
    {C fI L cda cc cl Pl cr Pr N : Addr} {nm qn0 file : Str} {bs bm sub : List Value} {sn : List Str} {ab : Bool} {col : Option Bool} {dd : Option Addr} {m0 m1 m2 m3 m5 : Option Value} {tf : Tok} {vsI vcl vcr : Array Value}
    {ocI dcI pmI ctI eI ecI ecl ecr : Value} {odI anI ddI dcc dcl dcr : Option Addr} {slI scI scc scl scr : Array (Option Value)}
    {od0 an0 : Option Addr} {sl0 : Array (Option Value)} {oc0 kV0 dc0 pm0 cd0 ct0 : Value} {f0 : Addr}
    {od1 an1 : Option Addr} {sl1 : Array (Option Value)} {oc1 kV1 dc1 pm1 cd1 ct1 : Value} {f1 : Addr}
    {od2 an2 : Option Addr} {sl2 : Array (Option Value)} {oc2 kV2 dc2 pm2 cd2 ct2 : Value} {f2 : Addr}
    {od3 an3 : Option Addr} {sl3 : Array (Option Value)} {oc3 kV3 dc3 pm3 cd3 ct3 : Value} {f3 : Addr}
    {od4 an4 : Option Addr} {sl4 : Array (Option Value)} {oc4 kV4 dc4 pm4 cd4 ct4 : Value} {f4 : Addr}
    {od5 an5 : Option Addr} {sl5 : Array (Option Value)} {oc5 kV5 dc5 pm5 cd5 ct5 : Value} {f5 : Addr}
    {od6 an6 : Option Addr} {sl6 : Array (Option Value)} {oc6 kV6 dc6 pm6 cd6 ct6 : Value} {f6 : Addr}
    {od7 an7 : Option Addr} {sl7 : Array (Option Value)} {oc7 kV7 dc7 pm7 cd7 ct7 : Value} {f7 : Addr}
    {od8 an8 : Option Addr} {sl8 : Array (Option Value)} {oc8 kV8 dc8 pm8 cd8 ct8 : Value} {f8 : Addr}
    {od9 an9 : Option Addr} {sl9 : Array (Option Value)} {oc9 kV9 dc9 pm9 cd9 ct9 : Value} {f9 : Addr}
    {od10 an10 : Option Addr} {sl10 : Array (Option Value)} {oc10 kV10 dc10 pm10 cd10 ct10 : Value} {f10 : Addr}
    {od11 an11 : Option Addr} {sl11 : Array (Option Value)} {oc11 kV11 dc11 pm11 cd11 ct11 : Value} {f11 : Addr}
    {od12 an12 : Option Addr} {sl12 : Array (Option Value)} {oc12 kV12 dc12 pm12 ct12 : Value} {f12 : Addr}
    {od13 an13 : Option Addr} {sl13 : Array (Option Value)} {oc13 kV13 dc13 pm13 cd13 ct13 : Value} {f13 : Addr}
    {od14 an14 : Option Addr} {sl14 : Array (Option Value)} {oc14 kV14 dc14 pm14 ct14 : Value} {f14 : Addr}
    {od15 an15 : Option Addr} {sl15 : Array (Option Value)} {oc15 kV15 dc15 pm15 cd15 ct15 : Value} {f15 : Addr}
    (aC : PySem.W.nsIn K mainGlobals "NoChange" = some (some (.ref C)))
    (xC : K.lookup C = some (excClassObj nm qn0 C N bs bm true sn sub ab col dd m0 m1 m2 m3 m5 "ValueError.__new__"))
    (vb : refsVE bm = true)
    (sa : PySem.W.findIn K (.ref C) "__setattr__" = some (some (.builtin "object.__setattr__")))
    (ga : PySem.W.findIn K (.ref C) "__getattribute__" = some (some (.builtin "BaseException.__getattribute__")))
    (gg : PySem.W.findIn K (.ref C) "__getattr__" = some none)
    (nb : PySem.W.findIn K (.ref C) "change" = some none)
    (aI : PySem.W.findIn K (.ref C) "__init__" = some (some (.ref fI)))
    (tI : PySem.W.typeIn K (.ref fI) = some (.type "function"))
    (lI : K.lookup fI = some ⟨ocI, odI, .func (PySem.W.ksFn "__init__" "NoChange.__init__" (defArgs initSt) (defBody initSt) (defScope initSt) .none .none dcI pmI anI (.ref cda) ctI cc), slI⟩)
    (cI : PySem.W.codeIn K (.ref cda) "NoChange.__init__" = true)
    (ld : K.lookup cda = some ⟨eI, ddI, .fields vsI, scI⟩)
    (lf : vsI[2]? = some (.str file tf))
    (lg : ((PP.main.file : Str) == file) = true)
    (lc : K.lookup cc = some ⟨ecI, dcc, .cell (some (.ref C)), scc⟩)
    (kC : PySem.W.keepIn K (.ref C) = true)
    (eC : PySem.W.subIn K (.ref C) (.type "BaseException") = some true)
    (vC : PySem.W.subIn K (.ref C) (.type "ValueError") = some true)
    (tC : PySem.W.typeIn K (.ref C) = some (.type "type"))
    (hC : PySem.W.hasDictIn K C = true)
    (mC : PySem.W.mroIn K C (.ref C) = some true)
    (al : PySem.W.ks_superIn K C C "__init__" = some (some (.builtin "ValueError.__init__")))
    (oq : PySem.W.nsIn K cStatics "thirdparty.any" = some none)
    (ex : PySem.W.exmOne K (.ref C) (.ref C) = some true)
    (aL : PySem.W.nsIn K mainGlobals "LaidError" = some (some (.ref L)))
    (z_len : PySem.W.nsIn K mainGlobals "len" = some none)
    (z_int : PySem.W.nsIn K mainGlobals "int" = some none)
    (z_abs : PySem.W.nsIn K mainGlobals "abs" = some none)
    (z_min : PySem.W.nsIn K mainGlobals "min" = some none)
    (z_max : PySem.W.nsIn K mainGlobals "max" = some none)
    (z_tuple : PySem.W.nsIn K mainGlobals "tuple" = some none)
    (z_repr : PySem.W.nsIn K mainGlobals "repr" = some none)
    (z_range : PySem.W.nsIn K mainGlobals "range" = some none)
    (z_enumerate : PySem.W.nsIn K mainGlobals "enumerate" = some none)
    (z_zip : PySem.W.nsIn K mainGlobals "zip" = some none)
    (z_super : PySem.W.nsIn K mainGlobals "super" = some none)
    (a0 : PySem.W.nsIn K mainGlobals "changed" = some (some (.ref f0)))
    (l0 : K.lookup f0 = some ⟨oc0, od0, .func (PySem.W.fnOf "changed" "changed" (defArgs (top 4)) (defBody (top 4)) (defScope (top 4)) .none kV0 dc0 pm0 an0 cd0 ct0), sl0⟩)
    (c0 : PySem.W.codeIn K cd0 "changed" = true)
    (k0 : PySem.W.keepIn K (.ref f0) = true)
    (a1 : PySem.W.nsIn K mainGlobals "changed_by" = some (some (.ref f1)))
    (l1 : K.lookup f1 = some ⟨oc1, od1, .func (PySem.W.fnOf "changed_by" "changed_by" (defArgs (top 5)) (defBody (top 5)) (defScope (top 5)) .none kV1 dc1 pm1 an1 cd1 ct1), sl1⟩)
    (c1 : PySem.W.codeIn K cd1 "changed_by" = true)
    (k1 : PySem.W.keepIn K (.ref f1) = true)
    (a2 : PySem.W.nsIn K mainGlobals "common_begin" = some (some (.ref f2)))
    (l2 : K.lookup f2 = some ⟨oc2, od2, .func (PySem.W.fnOf "common_begin" "common_begin" (defArgs (top 6)) (defBody (top 6)) (defScope (top 6)) .none kV2 dc2 pm2 an2 cd2 ct2), sl2⟩)
    (c2 : PySem.W.codeIn K cd2 "common_begin" = true)
    (k2 : PySem.W.keepIn K (.ref f2) = true)
    (a3 : PySem.W.nsIn K mainGlobals "change_between" = some (some (.ref f3)))
    (l3 : K.lookup f3 = some ⟨oc3, od3, .func (PySem.W.fnOf "change_between" "change_between" (defArgs (top 7)) (defBody (top 7)) (defScope (top 7)) .none kV3 dc3 pm3 an3 cd3 ct3), sl3⟩)
    (c3 : PySem.W.codeIn K cd3 "change_between" = true)
    (k3 : PySem.W.keepIn K (.ref f3) = true)
    (a4 : PySem.W.nsIn K mainGlobals "back_of" = some (some (.ref f4)))
    (l4 : K.lookup f4 = some ⟨oc4, od4, .func (PySem.W.fnOf "back_of" "back_of" (defArgs (top 8)) (defBody (top 8)) (defScope (top 8)) .none kV4 dc4 pm4 an4 cd4 ct4), sl4⟩)
    (c4 : PySem.W.codeIn K cd4 "back_of" = true)
    (k4 : PySem.W.keepIn K (.ref f4) = true)
    (a5 : PySem.W.nsIn K mainGlobals "_law_bag" = some (some (.ref f5)))
    (l5 : K.lookup f5 = some ⟨oc5, od5, .func (PySem.W.fnOf "_law_bag" "_law_bag" (defArgs (top 10)) (defBody (top 10)) (defScope (top 10)) .none kV5 dc5 pm5 an5 cd5 ct5), sl5⟩)
    (c5 : PySem.W.codeIn K cd5 "_law_bag" = true)
    (k5 : PySem.W.keepIn K (.ref f5) = true)
    (a6 : PySem.W.nsIn K mainGlobals "_law_take" = some (some (.ref f6)))
    (l6 : K.lookup f6 = some ⟨oc6, od6, .func (PySem.W.fnOf "_law_take" "_law_take" (defArgs (top 11)) (defBody (top 11)) (defScope (top 11)) .none kV6 dc6 pm6 an6 cd6 ct6), sl6⟩)
    (c6 : PySem.W.codeIn K cd6 "_law_take" = true)
    (k6 : PySem.W.keepIn K (.ref f6) = true)
    (a7 : PySem.W.nsIn K mainGlobals "_law_one" = some (some (.ref f7)))
    (l7 : K.lookup f7 = some ⟨oc7, od7, .func (PySem.W.fnOf "_law_one" "_law_one" (defArgs (top 12)) (defBody (top 12)) (defScope (top 12)) .none kV7 dc7 pm7 an7 cd7 ct7), sl7⟩)
    (c7 : PySem.W.codeIn K cd7 "_law_one" = true)
    (k7 : PySem.W.keepIn K (.ref f7) = true)
    (a8 : PySem.W.nsIn K mainGlobals "_law_alike" = some (some (.ref f8)))
    (l8 : K.lookup f8 = some ⟨oc8, od8, .func (PySem.W.fnOf "_law_alike" "_law_alike" (defArgs (top 13)) (defBody (top 13)) (defScope (top 13)) .none kV8 dc8 pm8 an8 cd8 ct8), sl8⟩)
    (c8 : PySem.W.codeIn K cd8 "_law_alike" = true)
    (k8 : PySem.W.keepIn K (.ref f8) = true)
    (a9 : PySem.W.nsIn K mainGlobals "_law_changed" = some (some (.ref f9)))
    (l9 : K.lookup f9 = some ⟨oc9, od9, .func (PySem.W.fnOf "_law_changed" "_law_changed" (defArgs (top 14)) (defBody (top 14)) (defScope (top 14)) .none kV9 dc9 pm9 an9 cd9 ct9), sl9⟩)
    (c9 : PySem.W.codeIn K cd9 "_law_changed" = true)
    (k9 : PySem.W.keepIn K (.ref f9) = true)
    (a10 : PySem.W.nsIn K mainGlobals "_law_change_between" = some (some (.ref f10)))
    (l10 : K.lookup f10 = some ⟨oc10, od10, .func (PySem.W.fnOf "_law_change_between" "_law_change_between" (defArgs (top 15)) (defBody (top 15)) (defScope (top 15)) .none kV10 dc10 pm10 an10 cd10 ct10), sl10⟩)
    (c10 : PySem.W.codeIn K cd10 "_law_change_between" = true)
    (k10 : PySem.W.keepIn K (.ref f10) = true)
    (a11 : PySem.W.nsIn K mainGlobals "_law_drawn_change" = some (some (.ref f11)))
    (l11 : K.lookup f11 = some ⟨oc11, od11, .func (PySem.W.fnOf "_law_drawn_change" "_law_drawn_change" (defArgs (top 17)) (defBody (top 17)) (defScope (top 17)) .none kV11 dc11 pm11 an11 cd11 ct11), sl11⟩)
    (c11 : PySem.W.codeIn K cd11 "_law_drawn_change" = true)
    (k11 : PySem.W.keepIn K (.ref f11) = true)
    (a12 : PySem.W.nsIn K mainGlobals "_law_rows_right" = some (some (.ref f12)))
    (l12 : K.lookup f12 = some ⟨oc12, od12, .func (PySem.W.fnOf "_law_rows_right" "_law_rows_right" (defArgs (top 18)) (defBody (top 18)) (defScope (top 18)) .none kV12 dc12 pm12 an12 (.ref cr) ct12), sl12⟩)
    (c12 : PySem.W.codeIn K (.ref cr) "_law_rows_right" = true)
    (k12 : PySem.W.keepIn K (.ref f12) = true)
    (a13 : PySem.W.nsIn K mainGlobals "_law_all_between" = some (some (.ref f13)))
    (l13 : K.lookup f13 = some ⟨oc13, od13, .func (PySem.W.fnOf "_law_all_between" "_law_all_between" (defArgs (top 19)) (defBody (top 19)) (defScope (top 19)) .none kV13 dc13 pm13 an13 cd13 ct13), sl13⟩)
    (c13 : PySem.W.codeIn K cd13 "_law_all_between" = true)
    (k13 : PySem.W.keepIn K (.ref f13) = true)
    (a14 : PySem.W.nsIn K mainGlobals "law" = some (some (.ref f14)))
    (l14 : K.lookup f14 = some ⟨oc14, od14, .func (PySem.W.fnOf "law" "law" (defArgs (top 20)) (defBody (top 20)) (defScope (top 20)) .none kV14 dc14 pm14 an14 (.ref cl) ct14), sl14⟩)
    (c14 : PySem.W.codeIn K (.ref cl) "law" = true)
    (k14 : PySem.W.keepIn K (.ref f14) = true)
    (a15 : PySem.W.nsIn K mainGlobals "_law_heard" = some (some (.ref f15)))
    (l15 : K.lookup f15 = some ⟨oc15, od15, .func (PySem.W.fnOf "_law_heard" "_law_heard" (defArgs (top 16)) (defBody (top 16)) (defScope (top 16)) .none kV15 dc15 pm15 an15 cd15 ct15), sl15⟩)
    (c15 : PySem.W.codeIn K cd15 "_law_heard" = true)
    (k15 : PySem.W.keepIn K (.ref f15) = true)
    (ll : K.lookup cl = some ⟨ecl, dcl, .fields vcl, scl⟩)
    (vl : vcl[11]? = some (.ref Pl))
    (dl : PySem.W.codeHdIn K cl Pl = true)
    (nl : K.lookup Pl = none)
    (lr : K.lookup cr = some ⟨ecr, dcr, .fields vcr, scr⟩)
    (vr : vcr[11]? = some (.ref Pr))
    (dr : PySem.W.codeHdIn K cr Pr = true)
    (nr : K.lookup Pr = none)
    (ne : Pl ≠ Pr)
    : LawG PySem.Challenge.rw_leastlaid_k60_texts_changed w K 45 63 "_law_script" mg fa h := by
  have e := hfa.symm.trans (PySem.W.mg_of X G a14)
  cases e
  have E : PySem.Dzx.ExT PP K mg "NoChange" C fI "change" :=
    { gC := PySem.W.mg_of X G aC, cls := ⟨nm, qn0, N, bs, bm, sn, sub, ab, col, dd, m0, m1, m2, m3, m5, xC, vb⟩, sa := sa, ga := ga, gg := gg, noN := nb, iC := aI, tC := tI, kC := kC, exC := eC, veC := vC, tyC := tC, hdC := hC, sub := mC, along := al, opq := oq, noS := PySem.W.mg_none_of X G z_super, top := by decide +kernel,
      fn := ⟨_, _, _, _, _, _, _, _, _, cda, cc, _, _, init_txt, lI, cI, fun x v => rfl, ⟨_, _, _, _, _, _, ld, lf, lg⟩, ⟨_, _, _, lc⟩⟩ }
  have D0 : DefF K mg "changed" (top 4) ["text", "change"] f0 _ := ⟨fun_mk (st := top 4) l0 c0 k0, (fun_mk (st := top 4) l0 c0 k0).binds (ps := ["text", "change"]) (fun _ _ _ _ _ _ us hl => match us, hl with | [_, _], _ => rfl), PySem.W.mg_of X G a0⟩
  have D1 : DefF K mg "changed_by" (top 5) ["text", "changes"] f1 _ := ⟨fun_mk (st := top 5) l1 c1 k1, (fun_mk (st := top 5) l1 c1 k1).binds (ps := ["text", "changes"]) (fun _ _ _ _ _ _ us hl => match us, hl with | [_, _], _ => rfl), PySem.W.mg_of X G a1⟩
  have D2 : DefF K mg "common_begin" (top 6) ["one", "other"] f2 _ := ⟨fun_mk (st := top 6) l2 c2 k2, (fun_mk (st := top 6) l2 c2 k2).binds (ps := ["one", "other"]) (fun _ _ _ _ _ _ us hl => match us, hl with | [_, _], _ => rfl), PySem.W.mg_of X G a2⟩
  have D3 : DefF K mg "change_between" (top 7) ["one", "other"] f3 _ := ⟨fun_mk (st := top 7) l3 c3 k3, (fun_mk (st := top 7) l3 c3 k3).binds (ps := ["one", "other"]) (fun _ _ _ _ _ _ us hl => match us, hl with | [_, _], _ => rfl), PySem.W.mg_of X G a3⟩
  have D4 : DefF K mg "back_of" (top 8) ["text", "change"] f4 _ := ⟨fun_mk (st := top 8) l4 c4 k4, (fun_mk (st := top 8) l4 c4 k4).binds (ps := ["text", "change"]) (fun _ _ _ _ _ _ us hl => match us, hl with | [_, _], _ => rfl), PySem.W.mg_of X G a4⟩
  have D5 : DefF K mg "_law_bag" (top 10) ["_law_script"] f5 _ := ⟨fun_mk (st := top 10) l5 c5 k5, (fun_mk (st := top 10) l5 c5 k5).binds (ps := ["_law_script"]) (fun _ _ _ _ _ _ us hl => match us, hl with | [_], _ => rfl), PySem.W.mg_of X G a5⟩
  have D6 : DefF K mg "_law_take" (top 11) ["_law_bag_here", "_law_many"] f6 _ := ⟨fun_mk (st := top 11) l6 c6 k6, (fun_mk (st := top 11) l6 c6 k6).binds (ps := ["_law_bag_here", "_law_many"]) (fun _ _ _ _ _ _ us hl => match us, hl with | [_, _], _ => rfl), PySem.W.mg_of X G a6⟩
  have D7 : DefF K mg "_law_one" (top 12) ["_law_bag_here", "_law_things"] f7 _ := ⟨fun_mk (st := top 12) l7 c7 k7, (fun_mk (st := top 12) l7 c7 k7).binds (ps := ["_law_bag_here", "_law_things"]) (fun _ _ _ _ _ _ us hl => match us, hl with | [_, _], _ => rfl), PySem.W.mg_of X G a7⟩
  have D8 : DefF K mg "_law_alike" (top 13) ["_law_found", "_law_due"] f8 _ := ⟨fun_mk (st := top 13) l8 c8 k8, (fun_mk (st := top 13) l8 c8 k8).binds (ps := ["_law_found", "_law_due"]) (fun _ _ _ _ _ _ us hl => match us, hl with | [_, _], _ => rfl), PySem.W.mg_of X G a8⟩
  have D9 : DefF K mg "_law_changed" (top 14) ["_law_text", "_law_change"] f9 _ := ⟨fun_mk (st := top 14) l9 c9 k9, (fun_mk (st := top 14) l9 c9 k9).binds (ps := ["_law_text", "_law_change"]) (fun _ _ _ _ _ _ us hl => match us, hl with | [_, _], _ => rfl), PySem.W.mg_of X G a9⟩
  have D10 : DefF K mg "_law_change_between" (top 15) ["_law_one_here", "_law_other"] f10 _ := ⟨fun_mk (st := top 15) l10 c10 k10, (fun_mk (st := top 15) l10 c10 k10).binds (ps := ["_law_one_here", "_law_other"]) (fun _ _ _ _ _ _ us hl => match us, hl with | [_, _], _ => rfl), PySem.W.mg_of X G a10⟩
  have D11 : DefF K mg "_law_drawn_change" (top 17) ["_law_bag_here", "_law_many"] f11 _ := ⟨fun_mk (st := top 17) l11 c11 k11, (fun_mk (st := top 17) l11 c11 k11).binds (ps := ["_law_bag_here", "_law_many"]) (fun _ _ _ _ _ _ us hl => match us, hl with | [_, _], _ => rfl), PySem.W.mg_of X G a11⟩
  have D12 : DefF K mg "_law_rows_right" (top 18) ["_law_bag_here", "_law_text"] f12 _ := ⟨fun_mk (st := top 18) l12 c12 k12, (fun_mk (st := top 18) l12 c12 k12).binds (ps := ["_law_bag_here", "_law_text"]) (fun _ _ _ _ _ _ us hl => match us, hl with | [_, _], _ => rfl), PySem.W.mg_of X G a12⟩
  have D13 : DefF K mg "_law_all_between" (top 19) ["_law_one_here", "_law_other"] f13 _ := ⟨fun_mk (st := top 19) l13 c13 k13, (fun_mk (st := top 19) l13 c13 k13).binds (ps := ["_law_one_here", "_law_other"]) (fun _ _ _ _ _ _ us hl => match us, hl with | [_, _], _ => rfl), PySem.W.mg_of X G a13⟩
  have D14 : DefF K mg "law" (top 20) ["_law_script"] fa _ := ⟨fun_mk (st := top 20) l14 c14 k14, (fun_mk (st := top 20) l14 c14 k14).binds (ps := ["_law_script"]) (fun _ _ _ _ _ _ us hl => match us, hl with | [_], _ => rfl), PySem.W.mg_of X G a14⟩
  have D15 : DefF K mg "_law_heard" (top 16) ["_law_act"] f15 _ := ⟨fun_mk (st := top 16) l15 c15 k15, (fun_mk (st := top 16) l15 c15 k15).binds (ps := ["_law_act"]) (fun _ _ _ _ _ _ us hl => match us, hl with | [_], _ => rfl), PySem.W.mg_of X G a15⟩
  have F : Fcs K mg C fI L cl Pl cr Pr fa f12 _ _ :=
    { E := E, noF := nb, gL := PySem.W.mg_of X G aL, exm := ex, blt := fun f => by cases f <;> first | exact PySem.W.mg_none_of X G z_len | exact PySem.W.mg_none_of X G z_int | exact PySem.W.mg_none_of X G z_abs | exact PySem.W.mg_none_of X G z_min | exact PySem.W.mg_none_of X G z_max | exact PySem.W.mg_none_of X G z_tuple | exact PySem.W.mg_none_of X G z_repr,
      rng := PySem.W.mg_none_of X G z_range, enu := ⟨PySem.W.mg_none_of X G z_enumerate, PySem.W.mg_none_of X G z_zip⟩, hl := dl, hr := dr, nl := nl, nr := nr, ne := ne,
      D0 := ⟨_, _, D0⟩, D1 := ⟨_, _, D1⟩, D2 := ⟨_, _, D2⟩, D3 := ⟨_, _, D3⟩, D4 := ⟨_, _, D4⟩, D5 := ⟨_, _, D5⟩, D6 := ⟨_, _, D6⟩, D7 := ⟨_, _, D7⟩, D8 := ⟨_, _, D8⟩, D9 := ⟨_, _, D9⟩, D10 := ⟨_, _, D10⟩, D11 := ⟨_, _, D11⟩, D12 := D12, C12 := ⟨_, _, _, l12, rfl⟩, D13 := ⟨_, _, D13⟩, D14 := D14, C14 := ⟨_, _, _, l14, rfl⟩, D15 := ⟨_, _, _, _, _, _, _, _, _, _, l15, c15, D15⟩ }
  have o1 := own "law" fa hq1 (PySem.W.mg_of X G a14) cl Pl _ _ _ _ _ _ l14 rfl rfl ll vl
  have o2 := own "_law_rows_right" f12 hq2 (PySem.W.mg_of X G a12) cr Pr _ _ _ _ _ _ l12 rfl rfl lr vr
  refine ⟨_, [(cl, Pl), (cr, Pr)], spF (cf0 K (tbK Pl Pr) (ecK C)) Flaw, ?_, fun s v => .of_eq rfl, ?_, fun base KB GB TB => chain F (TB (cl, Pl) (List.mem_cons_self ..)) (TB (cr, Pr) (List.mem_cons_of_mem _ (List.mem_cons_self ..)))⟩
  · intro p hp
    rcases List.mem_cons.mp hp with z | z
    · rw [z]; exact ⟨o1, nl, PySem.W.codeHd_of_K X dl⟩
    · rw [List.mem_singleton.mp z]; exact ⟨o2, nr, PySem.W.codeHd_of_K X dr⟩
  · intro H a ns hl hT hS
    have t1 := hT (cl, Pl) (List.mem_cons_self ..)
    have t2 := hT (cr, Pr) (List.mem_cons_of_mem _ (List.mem_cons_self ..))
    refine sp_call (C := cf0 K (tbK Pl Pr) (ecK C)) hS ?_ rfl (rn_run (run_law hl))
    intro p hp
    rcases List.mem_cons.mp hp with z | z
    · rw [z]; exact ⟨#[], t1, trivial, fun _ _ z => by cases z⟩
    · rw [List.mem_singleton.mp z]; exact ⟨#[], t2, trivial, fun _ _ z => by cases z⟩
end K60
open PySem PySem.W PyProof.Rows
set_option maxRecDepth 100000 in
set_option maxHeartbeats 0 in
theorem PySem.Challenge.cw_leastlaid_k60_texts_changed_holds : PySem.Challenge.rw_leastlaid_k60_texts_changed.Holds := by
  w_on; o_law; k_head; (case hw => w_witness2)
  k_fill
  refine Dz.walk_G2 (l := PySem.Challenge.rw_leastlaid_k60_texts_changed) (n := 63) (k := 45) (x := "_law_script") rfl (by decide) rfl ⟨rfl, by decide, by decide⟩ (fun w h Y => PySem.W.km_in_of Y) ?F
  case F =>
    intro w mg fa h Y KX G hmg own
    refine' K60.all_mk KX G hmg own ?hq1 ?hq2 ?aC ?xC ?vb ?sa ?ga ?gg ?nb ?aI ?tI ?lI ?cI ?ld ?lf ?lg ?lc ?kC ?eC ?vC ?tC ?hC ?mC ?al ?oq ?ex ?aL ?z_len ?z_int ?z_abs ?z_min ?z_max ?z_tuple ?z_repr ?z_range ?z_enumerate ?z_zip ?z_super ?a0 ?l0 ?c0 ?k0 ?a1 ?l1 ?c1 ?k1 ?a2 ?l2 ?c2 ?k2 ?a3 ?l3 ?c3 ?k3 ?a4 ?l4 ?c4 ?k4 ?a5 ?l5 ?c5 ?k5 ?a6 ?l6 ?c6 ?k6 ?a7 ?l7 ?c7 ?k7 ?a8 ?l8 ?c8 ?k8 ?a9 ?l9 ?c9 ?k9 ?a10 ?l10 ?c10 ?k10 ?a11 ?l11 ?c11 ?k11 ?a12 ?l12 ?c12 ?k12 ?a13 ?l13 ?c13 ?k13 ?a14 ?l14 ?c14 ?k14 ?a15 ?l15 ?c15 ?k15 ?ll ?vl ?dl ?nl ?lr ?vr ?dr ?nr ?ne
    (case hq1 => decide +kernel); (case hq2 => decide +kernel)
    (case aC => k_is); (case xC => k_is); (case vb => rfl); (case sa => k_is); (case ga => k_is); (case gg => k_is)
    (case nb => k_is); (case aI => k_is); (case tI => k_is); (case lI => k_is); (case cI => k_is); (case ld => k_is)
    (case lf => rfl); (case lg => rfl); (case lc => k_is); (case kC => k_is); (case eC => k_is); (case vC => k_is)
    (case tC => k_is); (case hC => k_is); (case mC => k_is); (case al => kernel_rfl); (case oq => k_is); (case ex => kernel_rfl)
    (case aL => k_is); (case z_len => k_is); (case z_int => k_is); (case z_abs => k_is); (case z_min => k_is); (case z_max => k_is)
    (case z_tuple => k_is); (case z_repr => k_is); (case z_range => k_is); (case z_enumerate => k_is); (case z_zip => k_is); (case z_super => k_is)
    (case a0 => k_is); (case l0 => k_is); (case c0 => k_is); (case k0 => k_is); (case a1 => k_is); (case l1 => k_is)
    (case c1 => k_is); (case k1 => k_is); (case a2 => k_is); (case l2 => k_is); (case c2 => k_is); (case k2 => k_is)
    (case a3 => k_is); (case l3 => k_is); (case c3 => k_is); (case k3 => k_is); (case a4 => k_is); (case l4 => k_is)
    (case c4 => k_is); (case k4 => k_is); (case a5 => k_is); (case l5 => k_is); (case c5 => k_is); (case k5 => k_is)
    (case a6 => k_is); (case l6 => k_is); (case c6 => k_is); (case k6 => k_is); (case a7 => k_is); (case l7 => k_is)
    (case c7 => k_is); (case k7 => k_is); (case a8 => k_is); (case l8 => k_is); (case c8 => k_is); (case k8 => k_is)
    (case a9 => k_is); (case l9 => k_is); (case c9 => k_is); (case k9 => k_is); (case a10 => k_is); (case l10 => k_is)
    (case c10 => k_is); (case k10 => k_is); (case a11 => k_is); (case l11 => k_is); (case c11 => k_is); (case k11 => k_is)
    (case a12 => k_is); (case l12 => k_is); (case c12 => k_is); (case k12 => k_is); (case a13 => k_is); (case l13 => k_is)
    (case c13 => k_is); (case k13 => k_is); (case a14 => k_is); (case l14 => k_is); (case c14 => k_is); (case k14 => k_is)
    (case a15 => k_is); (case l15 => k_is); (case c15 => k_is); (case k15 => k_is); (case ll => k_is); (case vl => rfl)
    (case dl => kernel_rfl); (case nl => kernel_rfl); (case lr => k_is); (case vr => rfl); (case dr => kernel_rfl); (case nr => kernel_rfl)
    (case ne => decide)

