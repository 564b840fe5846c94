import PyProof.Rows.All
import Wide.All
import OpenK.AllK
import Wide.FinOn
import HandS.ForMost
import HandS.ForExc
import HandS.Wide
import HandS.Gcd
import HandS.IsInst
import HandS.Flow
import HandS.TupAny
import HandS.TupMul
import HandS.Deep
import HandS.Text
import PyProof.ReprRoads
import PyProof.P3In
import HandS.Exc
import HandS.Comp
import HandS.Defaults
import HandS.Ends
import HandS.HeadEnd
import HandS.HeadHook2
import KE.KStateDown
import HandS.Head0
import HandS.Head1
import HandS.Head2
import PySem.Challenge.RW_everyslope_k00_quotients_reckoned
import HandS.Head3
set_option Elab.async false
set_option linter.all false
set_option maxRecDepth 100000
set_option autoImplicit false
/-! Part 0: the core syntax, its values and cells, its evaluator. -/
namespace RV
open PySem

/-- plain data; ref n: the cell n; fn n: the text's def n; rol: a list that is read alone -/
inductive D where
  | non | bl (b : Bool) | int (i : Int) | str (x : Str) | tup (ds : List D) | ref (n : Nat) | fn (n : Nat) | rol (ds : List D)
mutual
def D.eqb : D → D → Bool
  | .non, .non => true
  | .bl a, .bl b => decide (a = b)
  | .int a, .int b => decide (a = b)
  | .str a, .str b => decide (a = b)
  | .tup a, .tup b => D.eqbs a b
  | .ref a, .ref b => decide (a = b)
  | .fn a, .fn b => decide (a = b)
  | .rol a, .rol b => D.eqbs a b
  | _, _ => false
def D.eqbs : List D → List D → Bool
  | [], [] => true
  | a :: r, b :: s => D.eqb a b && D.eqbs r s
  | _, _ => false
end
mutual
theorem D.eqb_iff : ∀ a b : D, D.eqb a b = true ↔ a = b
  | .non, b => by cases b <;> simp [D.eqb]
  | .bl _, b => by cases b <;> simp [D.eqb]
  | .int _, b => by cases b <;> simp [D.eqb]
  | .str _, b => by cases b <;> simp [D.eqb]
  | .tup a, b => by
    cases b with
    | tup b => simp only [D.eqb, D.eqbs_iff a b, D.tup.injEq]
    | _ => simp [D.eqb]
  | .ref _, b => by cases b <;> simp [D.eqb]
  | .fn _, b => by cases b <;> simp [D.eqb]
  | .rol a, b => by
    cases b with
    | rol b => simp only [D.eqb, D.eqbs_iff a b, D.rol.injEq]
    | _ => simp [D.eqb]
theorem D.eqbs_iff : ∀ a b : List D, D.eqbs a b = true ↔ a = b
  | [], b => by cases b <;> simp [D.eqbs]
  | x :: r, b => by
    cases b with
    | nil => simp [D.eqbs]
    | cons y s => simp only [D.eqbs, Bool.and_eq_true, D.eqb_iff x y, D.eqbs_iff r s, List.cons.injEq]
end
instance : DecidableEq D := fun a b => decidable_of_iff _ (D.eqb_iff a b)
/-- what may be changed: a list -/
inductive Cell where
  | lst (ds : List D)
deriving DecidableEq
abbrev AH := List Cell
abbrev En := List (Option D)
/-- an evaluation's end -/
inductive R (α : Type) where
  | ok (a : α) (h : AH) | exc (c : Nat) (v : D) (h : AH) | bad
def R.bind {α β : Type} (r : R α) (f : α → AH → R β) : R β := match r with
  | .ok a h => f a h
  | .exc c v h => .exc c v h
  | .bad => .bad
@[simp] theorem R.bind_ok {α β : Type} (a : α) (h : AH) (f : α → AH → R β) : (R.ok a h).bind f = f a h := rfl
@[simp] theorem R.bind_exc {α β : Type} (c : Nat) (v : D) (h : AH) (f : α → AH → R β) : (R.exc c v h : R α).bind f = .exc c v h := rfl
@[simp] theorem R.bind_bad {α β : Type} (f : α → AH → R β) : (R.bad : R α).bind f = .bad := rfl
/-- where no error may leave -/
def R.calm {α : Type} (r : R α) : R α := match r with
  | .ok a h => .ok a h
  | _ => .bad
@[simp] theorem R.calm_ok {α : Type} (a : α) (h : AH) : (R.ok a h).calm = .ok a h := rfl
@[simp] theorem R.calm_bad {α : Type} : (R.bad : R α).calm = .bad := rfl
@[simp] theorem R.calm_exc {α : Type} (c : Nat) (v : D) (h : AH) : (R.exc c v h : R α).calm = .bad := rfl
theorem R.bind_assoc {α β γ : Type} (r : R α) (f : α → AH → R β) (g : β → AH → R γ) : (r.bind f).bind g = r.bind fun a h => (f a h).bind g := by cases r <;> rfl

/-- the types that isinstance asks -/
inductive Ty where
  | int | bool | str | tup | lst
deriving DecidableEq
/-- built-in functions of values -/
inductive Blt where
  | len | abs | int | str | gcd | repr | tup | list | ord | min2 | max2 | comb
deriving DecidableEq
/-- built-in functions of a list that has just been made -/
inductive BltT where
  | tup | all | any | sum | max | min | len
deriving DecidableEq
/-- methods of built-in values -/
inductive Mth where
  | append | extend | pop
deriving DecidableEq

mutual
inductive CE where
  | var (i : Nat)
  | lit (d : D)
  | glob (j : Nat) (d : D)
  | fnv (j : Nat)
  | tup (es : CEs)
  | op2 (o : Operator) (a b : CE)
  | neg (a : CE)
  | inv (a : CE)
  | cmp (o : CmpOp) (a b : CE)
  | cmp2 (o o' : CmpOp) (a b c : CE)
  | and (a b : CE)
  | or (a b : CE)
  | not (a : CE)
  | ite (t a b : CE)
  | call (f : Nat) (es : CEs)
  | callv (e : CE) (es : CEs)
  | isi (a : CE) (t : Ty)
  | blt (b : Blt) (es : CEs)
  | bltT (b : BltT) (t : CT)
  | join (s : CE) (t : CT)
  | sub (a i : CE)
  | slice (a : CE) (lo hi : CO)
  | alloc (t : CT)
  | meth (m : Mth) (o : CE) (es : CEs)
inductive CEs where
  | nil | cons (e : CE) (es : CEs)
inductive CO where
  | none | some (e : CE)
/-- a list that is made -/
inductive CT where
  | lst (es : CEs)
  | lc (own : List Nat) (tg : Tg) (it : CI) (ifs : CO) (e : CE)
/-- what is walked -/
inductive CI where
  | val (e : CE) | rng1 (a : CE) | rng2 (a b : CE) | tmp (t : CT)
inductive Tg where
  | name (i : Nat) | tup (ts : Tgs) | sub (o i : CE)
inductive Tgs where
  | nil | cons (t : Tg) (ts : Tgs)
end
mutual
inductive CS where
  | asg (t : Tg) (e : CE)
  | aug (i : Nat) (o : Operator) (e : CE)
  | expr (e : CE)
  | ret (e : CE)
  | retN
  | ifs (t : CE) (a b : CSs)
  | whil (t : CE) (b : CSs)
  | forr (t : Tg) (it : CI) (b : CSs)
  | pass
  | brk
  | cnt
  | never
inductive CSs where
  | nil | cons (s : CS) (ss : CSs)
end

/-! ### primitive operations -/
def SZ : Nat := 16777216
def BIG : Nat := 2 ^ 400000
def DBIG : Nat := 2 ^ 8900
def SBIG : Nat := 2 ^ 1900
def FUEL : Nat := 2 ^ 4000

def mapO {α β : Type} (f : α → Option β) : List α → Option (List β)
  | [] => some []
  | x :: xs => match f x with
    | none => none
    | some y => match mapO f xs with
      | none => none
      | some ys => some (y :: ys)
def asInt : D → Option Int
  | .int i => some i
  | _ => none
def asBl : D → Option Bool
  | .bl b => some b
  | _ => none
def asStr : D → Option Str
  | .str x => some x
  | _ => none
/-- data as the library has it, to a depth -/
def toP : Nat → AH → D → Option PyData
  | 0, _, _ => none
  | _ + 1, _, .non => some .none
  | _ + 1, _, .bl b => some (.bool b)
  | _ + 1, _, .int i => some (.int i)
  | _ + 1, _, .str x => if PyData.strOk x then some (.str x) else none
  | n + 1, h, .tup ds => match mapO (toP n h) ds with
    | none => none
    | some ps => some (.tuple ps)
  | n + 1, h, .ref k => match h[k]? with
    | some (.lst ds) => (match mapO (toP n h) ds with
      | none => none
      | some ps => some (.list ps))
    | _ => none
  | n + 1, h, .rol ds => match mapO (toP n h) ds with
    | none => none
    | some ps => some (.list ps)
  | _ + 1, _, .fn _ => none
def DEEP : Nat := 60
/-- == -/
def deq (x y : D) (h : AH) : Option Bool := match x, y with
  | .int i, .int j => some (decide (i = j))
  | .str a, .str b => some (decide (a = b))
  | .bl a, .bl b => some (decide (a = b))
  | .non, .non => some true
  | x, y => match toP DEEP h x, toP DEEP h y with
    | some p, some q => some (PyData.eqv p q)
    | _, _ => none
def seqOf (x : D) (h : AH) : Option (List D) := match x with
  | .tup ds => some ds
  | .rol ds => some ds
  | .ref n => match h[n]? with
    | some (.lst ds) => some ds
    | _ => none
  | _ => none
/-- x in y -/
def inP (x y : D) (h : AH) : Option Bool := match x, y with
  | .str a, .str z => if a.cps.size = 1 then some (decide (a.cps.getD 0 0 ∈ z.cps.toList)) else none
  | x, y => match toP DEEP h x, toP DEEP h y with
    | some p, some (.list ps) => some (ps.any fun z => PyData.eqv z p)
    | some p, some (.tuple ps) => some (ps.any fun z => PyData.eqv z p)
    | _, _ => none
def cmpP (o : CmpOp) (x y : D) (h : AH) : Option Bool := match o with
  | .Lt => (match x, y with
    | .int i, .int j => some (decide (i < j))
    | _, _ => none)
  | .LtE => (match x, y with
    | .int i, .int j => some (decide (i ≤ j))
    | _, _ => none)
  | .Gt => (match x, y with
    | .int i, .int j => some (decide (j < i))
    | _, _ => none)
  | .GtE => (match x, y with
    | .int i, .int j => some (decide (j ≤ i))
    | _, _ => none)
  | .Eq => deq x y h
  | .NotEq => (match deq x y h with
    | some b => some (!b)
    | none => none)
  | .Is => (match y with
    | .non => some (decide (x = .non))
    | _ => none)
  | .IsNot => (match y with
    | .non => some (!decide (x = .non))
    | _ => none)
  | .In => inP x y h
  | .NotIn => (match inP x y h with
    | some b => some (!b)
    | none => none)
def new (c : Cell) (h : AH) : R D := .ok (.ref h.length) (h ++ [c])
def prim2 (o : Operator) (x y : D) (h : AH) : R D := match o, x, y with
  | .Add, .int i, .int j => .ok (.int (i + j)) h
  | .Add, .str a, .str b => if a.length + b.length ≤ SZ then .ok (.str (a ++ b)) h else .bad
  | .Add, .tup a, .tup b => if a.length + b.length ≤ SZ then .ok (.tup (a ++ b)) h else .bad
  | .Add, .ref n, .ref m => (match h[n]?, h[m]? with
    | some (.lst a), some (.lst b) => if a.length + b.length ≤ SZ then new (.lst (a ++ b)) h else .bad
    | _, _ => .bad)
  | .Sub, .int i, .int j => .ok (.int (i - j)) h
  | .Mult, .int i, .int j => if i.natAbs < BIG ∧ j.natAbs < BIG then .ok (.int (i * j)) h else .bad
  | .Mult, .ref n, .int k => (match h[n]? with
    | some (.lst a) => if -9223372036854775808 ≤ k ∧ k < 9223372036854775808 ∧ a.length * k.toNat ≤ SZ then new (.lst (List.replicate k.toNat a).flatten) h else .bad
    | _ => .bad)
  | .Mult, .tup a, .int k => if 2 ≤ k ∧ k ≤ 1000 ∧ a.length ≤ 1000 ∧ a ≠ [] then .ok (.tup (List.replicate k.toNat a).flatten) h else .bad
  | .FloorDiv, .int i, .int j => if 0 < j ∧ j.natAbs < DBIG then .ok (.int (i / j)) h else .bad
  | .Mod, .int i, .int j => if 0 < j then .ok (.int (i % j)) h else .bad
  | .Pow, .int i, .int j => if 0 ≤ j ∧ j ≤ 1000000 ∧ i.natAbs < 2 ^ 64 then .ok (.int (i ^ j.toNat)) h else .bad
  | _, _, _ => .bad
def iopP (o : Operator) (x y : D) : Bool := match o, x, y with
  | .Add, .int _, .int _ => true
  | .Add, .str _, .str _ => true
  | .Sub, .int _, .int _ => true
  | .Mult, .int _, .int _ => true
  | _, _, _ => false
def truthy (x : D) (h : AH) : Option Bool := match x with
  | .non => some false
  | .bl b => some b
  | .int i => some (i != 0)
  | .str a => if a.length ≤ SZ then some ((a.length : Int) != 0) else none
  | .tup ds => some (!ds.isEmpty)
  | .rol ds => some (!ds.isEmpty)
  | .ref n => (match h[n]? with
    | some (.lst ds) => some (!ds.isEmpty)
    | _ => none)
  | .fn _ => none
def isTy (x : D) (t : Ty) (h : AH) : Option Bool := match x with
  | .non => some false
  | .bl _ => some (t == .bool || t == .int)
  | .int _ => some (t == .int)
  | .str _ => some (t == .str)
  | .tup _ => some (t == .tup)
  | .rol _ => some (t == .lst)
  | .ref n => (match h[n]? with
    | some (.lst _) => some (t == .lst)
    | _ => none)
  | .fn _ => none
def ofO {α : Type} (o : Option α) (h : AH) : R α := match o with
  | some a => .ok a h
  | none => .bad
def repO (x : D) (h : AH) : Option Str := match toP DEEP h x with
  | some p => if p.showable && decide (p.shown.length + 64 ≤ SZ) then some p.shown else none
  | none => none
def blt (b : Blt) (xs : List D) (h : AH) : R D := match b, xs with
  | .len, [.str x] => if x.length ≤ SZ then .ok (.int x.length) h else .bad
  | .len, [x] => (match seqOf x h with
    | some ds => .ok (.int ds.length) h
    | none => .bad)
  | .abs, [.int i] => .ok (.int (if i < 0 then -i else i)) h
  | .int, [.int i] => .ok (.int i) h
  | .str, [.int i] => if i.natAbs < SBIG then .ok (.str (toString i)) h else .bad
  | .gcd, [.int i, .int j] => .ok (.int ((Nat.gcd i.natAbs j.natAbs : Nat) : Int)) h
  | .repr, [x] => (match repO x h with
    | some s => .ok (.str s) h
    | none => .bad)
  | .tup, [x] => (match seqOf x h with
    | some ds => .ok (.tup ds) h
    | none => .bad)
  | .list, [x] => (match seqOf x h with
    | some ds => new (.lst ds) h
    | none => .bad)
  | _, _ => .bad
def maxI : List Int → Int
  | [] => 0
  | [a] => a
  | a :: b :: r => if maxI (b :: r) > a then maxI (b :: r) else a
def minI : List Int → Int
  | [] => 0
  | [a] => a
  | a :: b :: r => if minI (b :: r) < a then minI (b :: r) else a
def bltT (b : BltT) (xs : List D) (h : AH) : R D := match b with
  | .tup => .ok (.tup xs) h
  | .len => .ok (.int xs.length) h
  | .all => (match mapO asBl xs with
    | some bs => .ok (.bl (bs.all id)) h
    | none => .bad)
  | .any => (match mapO asBl xs with
    | some bs => .ok (.bl (bs.any id)) h
    | none => .bad)
  | .sum => (match mapO asInt xs with
    | some ns => .ok (.int ns.sum) h
    | none => .bad)
  | .max => (match mapO asInt xs with
    | some ns => if ns = [] then .bad else .ok (.int (maxI ns)) h
    | none => .bad)
  | .min => (match mapO asInt xs with
    | some ns => if ns = [] then .bad else .ok (.int (minI ns)) h
    | none => .bad)
/-- a sequence's place as Python counts it -/
def ixAt {α : Type} (xs : List α) (i : Int) : Option α := L2.atI xs i
def subP (x i : D) (h : AH) : R D := match x, i with
  | .str z, .int k => if z.length ≤ SZ then (match L2.atI z.cps.toList k with
    | some c => .ok (.str ⟨#[c]⟩) h
    | none => .bad) else .bad
  | x, .int k => (match seqOf x h with
    | some ds => (match L2.atI ds k with
      | some d => .ok d h
      | none => .bad)
    | none => .bad)
  | _, _ => .bad
def cutL {α : Type} (xs : List α) (lo hi : Option Int) : List α := (xs.drop (HT.sIx xs.length 0 lo)).take (HT.sIx xs.length xs.length hi - HT.sIx xs.length 0 lo)
def sliceP (x : D) (lo hi : Option Int) (h : AH) : R D := match x with
  | .str z => if z.length ≤ SZ then .ok (.str ⟨(cutL z.cps.toList lo hi).toArray⟩) h else .bad
  | .tup ds => .ok (.tup (cutL ds lo hi)) h
  | .rol ds => new (.lst (cutL ds lo hi)) h
  | .ref n => (match h[n]? with
    | some (.lst ds) => new (.lst (cutL ds lo hi)) h
    | _ => .bad)
  | _ => .bad
def setP (o i v : D) (h : AH) : R Unit := match o, i with
  | .ref n, .int k => (match h[n]? with
    | some (.lst ds) => (match L2.ixN ds.length k with
      | some j => .ok () (h.set n (.lst (ds.set j v)))
      | none => .bad)
    | _ => .bad)
  | _, _ => .bad
def methP (m : Mth) (o : D) (xs : List D) (h : AH) : R D := match m, o, xs with
  | .append, .ref n, [x] => (match h[n]? with
    | some (.lst ds) => if ds.length < SZ then .ok .non (h.set n (.lst (ds ++ [x]))) else .bad
    | _ => .bad)
  | _, _, _ => .bad
/-- the value is of the method's type -/
def methOk (m : Mth) (o : D) (h : AH) : Bool := match m, o with
  | .append, .ref n => (match h[n]? with
    | some (.lst _) => true
    | _ => false)
  | .extend, .ref n => (match h[n]? with
    | some (.lst _) => true
    | _ => false)
  | .pop, .ref n => (match h[n]? with
    | some (.lst _) => true
    | _ => false)
  | _, _ => false
def depsOk (deps : List (Nat × Cell)) (h : AH) : Bool := deps.all fun p => decide (h[p.1]? = some p.2)
def chars (z : Str) : List D := z.cps.toList.map fun c => .str ⟨#[c]⟩
/-- a value that is walked -/
def walkP (x : D) (h : AH) : R (List D × List (Nat × Cell)) := match x with
  | .tup ds => .ok (ds, []) h
  | .rol ds => .ok (ds, []) h
  | .ref n => (match h[n]? with
    | some (.lst ds) => .ok (ds, [(n, .lst ds)]) h
    | _ => .bad)
  | _ => .bad
def rngL (lo : Int) (n : Nat) : List D := (List.range n).map fun (i : Nat) => D.int (lo + (i : Int))
def RB : Int := 4611686018427387904
def rng1P (x : D) (h : AH) : R (List D × List (Nat × Cell)) := match x with
  | .int j => if -RB ≤ j ∧ j < RB then .ok (rngL 0 j.toNat, []) h else .bad
  | _ => .bad
def rng2P (x y : D) (h : AH) : R (List D × List (Nat × Cell)) := match x, y with
  | .int i, .int j => if -RB ≤ i ∧ i < RB ∧ -RB ≤ j ∧ j < RB then .ok (rngL i (j - i).toNat, []) h else .bad
  | _, _ => .bad
/-! ### the evaluator -/
abbrev Call := Nat → List D → AH → R D
def var (env : En) (i : Nat) (h : AH) : R D := match env[i]? with
  | some (some d) => .ok d h
  | _ => .bad
/-- a block's own names are not yet set -/
def wipeE (env : En) : List Nat → En
  | [] => env
  | v :: vs => (wipeE env vs).set v none
/-- a comprehension's turns -/
def evComp (tg : D → AH → R En) (test : En → AH → R Bool) (elt : En → AH → R D) (deps : List (Nat × Cell)) : List D → List D → AH → R (List D)
  | [], acc, h => if depsOk deps h then .ok acc h else .bad
  | x :: xs, acc, h => if depsOk deps h then (tg x h).calm.bind fun env h1 => (test env h1).calm.bind fun b h2 =>
      if b then (elt env h2).calm.bind fun y h3 => if acc.length < SZ then evComp tg test elt deps xs (acc ++ [y]) h3 else .bad else evComp tg test elt deps xs acc h2
    else .bad
def Tgs.len : Tgs → Nat
  | .nil => 0
  | .cons _ ts => ts.len + 1
mutual
def evE (call : Call) : CE → En → AH → R D
  | .var i, env, h => var env i h
  | .lit d, _, h => .ok d h
  | .glob _ d, _, h => .ok d h
  | .fnv j, _, h => .ok (.fn j) h
  | .tup es, env, h => (evEs call es env h).bind fun ds h1 => if ds.length ≤ SZ then .ok (.tup ds) h1 else .bad
  | .op2 o a b, env, h => (evE call a env h).bind fun x h1 => (evE call b env h1).bind fun y h2 => prim2 o x y h2
  | .neg a, env, h => (evE call a env h).bind fun x h1 => (match x with
    | .int i => .ok (.int (-i)) h1
    | _ => .bad)
  | .inv a, env, h => (evE call a env h).bind fun x h1 => (match x with
    | .int i => .ok (.int (Builtin.bitNot i)) h1
    | _ => .bad)
  | .cmp o a b, env, h => (evE call a env h).bind fun x h1 => (evE call b env h1).bind fun y h2 => (ofO (cmpP o x y h2) h2).bind fun k h3 => .ok (.bl k) h3
  | .cmp2 o o' a b c, env, h => (evE call a env h).bind fun x h1 => (evE call b env h1).bind fun y h2 => (ofO (cmpP o x y h2) h2).bind fun k h3 =>
      if k then (evE call c env h3).bind fun z h4 => (ofO (cmpP o' y z h4) h4).bind fun k' h5 => .ok (.bl k') h5 else .ok (.bl false) h3
  | .and a b, env, h => (evE call a env h).bind fun x h1 => (ofO (truthy x h1) h1).bind fun k h2 => if k then evE call b env h2 else .ok x h2
  | .or a b, env, h => (evE call a env h).bind fun x h1 => (ofO (truthy x h1) h1).bind fun k h2 => if k then .ok x h2 else evE call b env h2
  | .not a, env, h => (evE call a env h).bind fun x h1 => (ofO (truthy x h1) h1).bind fun k h2 => .ok (.bl (!k)) h2
  | .ite t a b, env, h => (evE call t env h).bind fun x h1 => (ofO (truthy x h1) h1).bind fun k h2 => if k then evE call a env h2 else evE call b env h2
  | .call f es, env, h => (evEs call es env h).bind fun ds h1 => call f ds h1
  | .callv e es, env, h => (evE call e env h).bind fun x h1 => (evEs call es env h1).bind fun ds h2 => (match x with
    | .fn f => call f ds h2
    | _ => .bad)
  | .isi a t, env, h => (evE call a env h).bind fun x h1 => (ofO (isTy x t h1) h1).bind fun k h2 => .ok (.bl k) h2
  | .blt b es, env, h => (evEs call es env h).bind fun ds h1 => RV.blt b ds h1
  | .bltT b t, env, h => (evT call t env h).bind fun ds h1 => RV.bltT b ds h1
  | .join s t, env, h => (evE call s env h).bind fun x h1 => (match x with
    | .str sep => (evT call t env h1).bind fun ds h2 => (match mapO asStr ds with
      | some ys => if (ys.map (·.length)).sum + ys.length * sep.length ≤ SZ then .ok (.str (Txt.join sep ys)) h2 else .bad
      | none => .bad)
    | _ => .bad)
  | .sub a i, env, h => (evE call a env h).bind fun x h1 => (evE call i env h1).bind fun y h2 => subP x y h2
  | .slice a lo hi, env, h => (evE call a env h).bind fun x h1 => (evO call lo env h1).bind fun l h2 => (evO call hi env h2).bind fun u h3 => sliceP x l u h3
  | .alloc t, env, h => (evT call t env h).bind fun ds h1 => new (.lst ds) h1
  | .meth m o es, env, h => (evE call o env h).bind fun x h1 => if methOk m x h1 then (evEs call es env h1).bind fun ds h2 => methP m x ds h2 else .bad
def evEs (call : Call) : CEs → En → AH → R (List D)
  | .nil, _, h => .ok [] h
  | .cons e es, env, h => (evE call e env h).bind fun x h1 => (evEs call es env h1).bind fun xs h2 => .ok (x :: xs) h2
def evO (call : Call) : CO → En → AH → R (Option Int)
  | .none, _, h => .ok none h
  | .some e, env, h => (evE call e env h).bind fun x h1 => (match x with
    | .int i => .ok (some i) h1
    | _ => .bad)
def evT (call : Call) : CT → En → AH → R (List D)
  | .lst es, env, h => (evEs call es env h).bind fun ds h1 => if ds.length ≤ SZ then .ok ds h1 else .bad
  | .lc own tg it ifs e, env, h => (evI call it env h).bind fun src h1 => evComp (fun x h => evG call tg x (wipeE env own) h) (evF call ifs) (evE call e) src.2 src.1 [] h1
def evF (call : Call) : CO → En → AH → R Bool
  | .none, _, h => .ok true h
  | .some e, env, h => (evE call e env h).bind fun x h1 => ofO (truthy x h1) h1
def evI (call : Call) : CI → En → AH → R (List D × List (Nat × Cell))
  | .val e, env, h => (evE call e env h).bind fun x h1 => walkP x h1
  | .rng1 a, env, h => (evE call a env h).bind fun x h1 => rng1P x h1
  | .rng2 a b, env, h => (evE call a env h).bind fun x h1 => (evE call b env h1).bind fun y h2 => rng2P x y h2
  | .tmp t, env, h => (evT call t env h).bind fun ds h1 => .ok (ds, []) h1
def evG (call : Call) : Tg → D → En → AH → R En
  | .name i, x, env, h => .ok (env.set i (some x)) h
  | .tup ts, x, env, h => (match x with
    | .tup ds => if ds.length = ts.len then evGs call ts ds env h else .bad
    | _ => .bad)
  | .sub o i, x, env, h => (evE call o env h).bind fun a h1 => (evE call i env h1).bind fun b h2 => (setP a b x h2).bind fun _ h3 => .ok env h3
def evGs (call : Call) : Tgs → List D → En → AH → R En
  | .nil, ds, env, h => (match ds with
    | [] => .ok env h
    | _ => .bad)
  | .cons t ts, ds, env, h => (match ds with
    | x :: xs => (evG call t x env h).bind fun env1 h1 => evGs call ts xs env1 h1
    | _ => .bad)
end
/-- a statement's end -/
inductive Fl where
  | nx (env : En) | rt (d : D) | bk (env : En) | ct (env : En)
def evLoop (tg : D → En → AH → R En) (body : En → AH → R Fl) (deps : List (Nat × Cell)) : List D → En → AH → R Fl
  | [], env, h => if depsOk deps h then .ok (.nx env) h else .bad
  | x :: xs, env, h => if depsOk deps h then (tg x env h).bind fun env1 h1 => (body env1 h1).bind fun f h2 => (match f with
      | .nx e => evLoop tg body deps xs e h2
      | .ct e => evLoop tg body deps xs e h2
      | .bk e => .ok (.nx e) h2
      | .rt d => .ok (.rt d) h2) else .bad
def evWhile (test : En → AH → R Bool) (body : En → AH → R Fl) : Nat → En → AH → R Fl
  | 0, _, _ => .bad
  | n + 1, env, h => (test env h).bind fun b h1 => if b then (body env h1).bind fun f h2 => (match f with
      | .nx e => evWhile test body n e h2
      | .ct e => evWhile test body n e h2
      | .bk e => .ok (.nx e) h2
      | .rt d => .ok (.rt d) h2) else .ok (.nx env) h1
def evB (call : Call) (t : CE) (env : En) (h : AH) : R Bool := (evE call t env h).bind fun x h1 => ofO (truthy x h1) h1
mutual
def evS (call : Call) : CS → En → AH → R Fl
  | .asg t e, env, h => (evE call e env h).bind fun x h1 => (evG call t x env h1).bind fun env1 h2 => .ok (.nx env1) h2
  | .aug i o e, env, h => (var env i h).bind fun x h1 => (evE call e env h1).bind fun y h2 => if iopP o x y then (prim2 o x y h2).bind fun z h3 => .ok (.nx (env.set i (some z))) h3 else .bad
  | .expr e, env, h => (evE call e env h).bind fun _ h1 => .ok (.nx env) h1
  | .ret e, env, h => (evE call e env h).bind fun x h1 => .ok (.rt x) h1
  | .retN, _, h => .ok (.rt .non) h
  | .ifs t a b, env, h => (evB call t env h).bind fun k h1 => if k then evSs call a env h1 else evSs call b env h1
  | .whil t b, env, h => evWhile (evB call t) (evSs call b) FUEL env h
  | .forr t it b, env, h => (evI call it env h).bind fun src h1 => evLoop (evG call t) (evSs call b) src.2 src.1 env h1
  | .pass, env, h => .ok (.nx env) h
  | .brk, env, h => .ok (.bk env) h
  | .cnt, env, h => .ok (.ct env) h
  | .never, _, _ => .bad
def evSs (call : Call) : CSs → En → AH → R Fl
  | .nil, env, h => .ok (.nx env) h
  | .cons s ss, env, h => (evS call s env h).bind fun f h1 => (match f with
    | .nx e => evSs call ss e h1
    | f => .ok f h1)
end
/-- a def: its parameters' number, its names' number, its body -/
structure Fn where
  np : Nat
  nn : Nat
  body : CSs
mutual
def D.under (n : Nat) : D → Bool
  | .tup ds => D.unders n ds
  | .rol ds => D.unders n ds
  | .ref k => decide (k < n)
  | _ => true
def D.unders (n : Nat) : List D → Bool
  | [] => true
  | d :: ds => D.under n d && D.unders n ds
end
/-- what a call leaves: new cells that nothing names are dropped -/
def sweep (h : AH) (d : D) (h' : AH) : R D := if h'.take h.length = h ∧ D.under h.length d = true then .ok d h else .ok d h'
def evC (P : List Fn) : Nat → Call
  | 0, _, _, _ => .bad
  | k + 1, f, ds, h => match P[f]? with
    | none => .bad
    | some fn => if ds.length = fn.np then (evSs (evC P k) fn.body (ds.map some ++ List.replicate (fn.nn - fn.np) none) h).bind fun fl h' => (match fl with
      | .rt d => sweep h d h'
      | .nx _ => sweep h .non h'
      | _ => .bad) else .bad
end RV
set_option Elab.async false
set_option linter.all false
set_option maxRecDepth 100000
set_option autoImplicit false
/-! Part 1: how the plain data lie in the layer's heap. -/
namespace RV
open PySem PySem.Spec PyProof.Rows L2

/-- what stands around a law: the text's program, the written part, where defs and error classes stand -/
structure Wd where
  P : Program
  w : World
  K : PySem.W.Frag
  mg : Str → Option Value
  base : Heap
  fa : Nat → Addr
  ca : Nat → Addr
  fld : Nat → Str

/-- a list that no one writes -/
def FzL (K : PySem.W.Frag) (H : Hp) (a : Addr) (xs : List V) : Prop := (∃ o, H a = some (.frz o (.lst xs))) ∨ ∀ H' : Hp, SqL K H' a xs ∧ ∃ o, K.lookup a = some o ∧ o.cls = .type "list"
mutual
def DV (G : Wd) (ι : List Addr) (H : Hp) : D → V → Prop
  | .non, v => v = .non
  | .bl b, v => v = .bl b
  | .int i, v => v = .int i
  | .str x, v => v = .str x
  | .tup ds, v => ∃ a vs, v = .ref a ∧ SqT G.K H a vs ∧ DVs G ι H ds vs
  | .ref n, v => ∃ a, ι[n]? = some a ∧ v = .ref a
  | .fn j, v => v = .ref (G.fa j)
  | .rol ds, v => ∃ a vs, v = .ref a ∧ FzL G.K H a vs ∧ DVs G ι H ds vs
def DVs (G : Wd) (ι : List Addr) (H : Hp) : List D → List V → Prop
  | [], vs => vs = []
  | d :: ds, vs => ∃ v r, vs = v :: r ∧ DV G ι H d v ∧ DVs G ι H ds r
end
def Fix : HO → Prop
  | .tup _ => True
  | .frz _ _ => True
  | _ => False
/-- from the heap H (cells at ι) on to H' (cells at ι') -/
structure Ext (ι : List Addr) (H : Hp) (ι' : List Addr) (H' : Hp) : Prop where
  pre : ι <+: ι'
  new : ∀ a ∈ ι', a ∈ ι ∨ H a = none
  keep : ∀ b o, H b = some o → b ∉ ι → H' b = some o
  fix : ∀ b o, H b = some o → Fix o → H' b = some o
theorem Ext.refl {ι : List Addr} {H : Hp} : Ext ι H ι H := ⟨List.prefix_refl _, fun _ h => .inl h, fun _ _ h _ => h, fun _ _ h _ => h⟩
theorem Ext.trans {ι ι1 ι2 : List Addr} {H H1 H2 : Hp} (a : Ext ι H ι1 H1) (b : Ext ι1 H1 ι2 H2) : Ext ι H ι2 H2 where
  pre := a.pre.trans b.pre
  new := fun x hx => by
    rcases b.new x hx with h | h
    · exact a.new x h
    · by_cases hi : x ∈ ι
      · exact .inl hi
      · refine .inr ?_
        cases q : H x with
        | none => rfl
        | some o =>
          have := a.keep x o q hi
          rw [h] at this
          cases this
  keep := fun x o hx hn => by
    refine b.keep x o (a.keep x o hx hn) fun hi => ?_
    rcases a.new x hi with h | h
    · exact hn h
    · rw [hx] at h
      cases h
  fix := fun x o hx hf => b.fix x o (a.fix x o hx hf) hf
theorem SqT.ext {K : PySem.W.Frag} {ι ι' : List Addr} {H H' : Hp} {a : Addr} {xs : List V} (h : SqT K H a xs) (e : Ext ι H ι' H') : SqT K H' a xs := by
  rcases h with (h | ⟨o, h⟩) | h
  · exact .inl (.inl (e.fix _ _ h trivial))
  · exact .inl (.inr ⟨o, e.fix _ _ h trivial⟩)
  · exact .inr h
theorem FzL.ext {K : PySem.W.Frag} {ι ι' : List Addr} {H H' : Hp} {a : Addr} {xs : List V} (h : FzL K H a xs) (e : Ext ι H ι' H') : FzL K H' a xs := by
  rcases h with ⟨o, h⟩ | h
  · exact .inl ⟨o, e.fix _ _ h trivial⟩
  · exact .inr h
theorem FzL.sq {K : PySem.W.Frag} {H : Hp} {a : Addr} {xs : List V} (h : FzL K H a xs) : SqL K H a xs := by
  rcases h with ⟨o, h⟩ | h
  · exact .inl (.inr ⟨o, h⟩)
  · exact (h H).1
theorem pre_get {α : Type} {l l' : List α} {n : Nat} {a : α} (p : l <+: l') (h : l[n]? = some a) : l'[n]? = some a := by
  obtain ⟨t, rfl⟩ := p
  rw [List.getElem?_append_left (List.getElem?_eq_some_iff.mp h).1]
  exact h
theorem SqT.fx {K : PySem.W.Frag} {H H' : Hp} {a : Addr} {xs : List V} (h : SqT K H a xs) (e : ∀ b o, H b = some o → Fix o → H' b = some o) : SqT K H' a xs := by
  rcases h with (h | ⟨o, h⟩) | h
  · exact .inl (.inl (e _ _ h trivial))
  · exact .inl (.inr ⟨o, e _ _ h trivial⟩)
  · exact .inr h
theorem FzL.fx {K : PySem.W.Frag} {H H' : Hp} {a : Addr} {xs : List V} (h : FzL K H a xs) (e : ∀ b o, H b = some o → Fix o → H' b = some o) : FzL K H' a xs := by
  rcases h with ⟨o, h⟩ | h
  · exact .inl ⟨o, e _ _ h trivial⟩
  · exact .inr h
mutual
theorem DV.mono {G : Wd} {ι ι' : List Addr} {H H' : Hp} (p : ι <+: ι') (e : ∀ b o, H b = some o → Fix o → H' b = some o) : ∀ (d : D) (v : V), DV G ι H d v → DV G ι' H' d v
  | .non, _, h => h
  | .bl _, _, h => h
  | .int _, _, h => h
  | .str _, _, h => h
  | .tup ds, _, ⟨a, vs, h1, h2, h3⟩ => ⟨a, vs, h1, SqT.fx h2 e, DVs.mono p e ds vs h3⟩
  | .ref n, _, ⟨a, h1, h2⟩ => ⟨a, pre_get p h1, h2⟩
  | .fn _, _, h => h
  | .rol ds, _, ⟨a, vs, h1, h2, h3⟩ => ⟨a, vs, h1, FzL.fx h2 e, DVs.mono p e ds vs h3⟩
theorem DVs.mono {G : Wd} {ι ι' : List Addr} {H H' : Hp} (p : ι <+: ι') (e : ∀ b o, H b = some o → Fix o → H' b = some o) : ∀ (ds : List D) (vs : List V), DVs G ι H ds vs → DVs G ι' H' ds vs
  | [], _, h => h
  | d :: ds, _, ⟨v, r, h1, h2, h3⟩ => ⟨v, r, h1, DV.mono p e d v h2, DVs.mono p e ds r h3⟩
end
theorem DV.ext {G : Wd} {ι ι' : List Addr} {H H' : Hp} (e : Ext ι H ι' H') (d : D) (v : V) (h : DV G ι H d v) : DV G ι' H' d v := DV.mono e.pre e.fix d v h
theorem DVs.ext {G : Wd} {ι ι' : List Addr} {H H' : Hp} (e : Ext ι H ι' H') (d : List D) (v : List V) (h : DVs G ι H d v) : DVs G ι' H' d v := DVs.mono e.pre e.fix d v h
section
variable {G : Wd} {ι : List Addr} {H : Hp}
theorem DVs.len : ∀ {ds : List D} {vs : List V}, DVs G ι H ds vs → vs.length = ds.length
  | [], _, h => by rw [show _ = [] from h]; rfl
  | d :: ds, _, ⟨v, r, h1, _, h3⟩ => by rw [h1, List.length_cons, List.length_cons, DVs.len h3]
theorem DVs.nil : DVs G ι H [] [] := rfl
theorem DVs.cons {d : D} {ds : List D} {v : V} {vs : List V} (h : DV G ι H d v) (t : DVs G ι H ds vs) : DVs G ι H (d :: ds) (v :: vs) := ⟨v, vs, rfl, h, t⟩
theorem DVs.get : ∀ {ds : List D} {vs : List V} {i : Nat} {d : D}, DVs G ι H ds vs → ds[i]? = some d → ∃ v, vs[i]? = some v ∧ DV G ι H d v
  | d :: ds, _, 0, x, ⟨v, r, h1, h2, h3⟩, e => by
    rw [List.getElem?_cons_zero] at e
    cases e
    exact ⟨v, by rw [h1]; rfl, h2⟩
  | d :: ds, _, i + 1, x, ⟨v, r, h1, h2, h3⟩, e => by
    rw [List.getElem?_cons_succ] at e
    obtain ⟨u, h4, h5⟩ := DVs.get h3 e
    exact ⟨u, by rw [h1, List.getElem?_cons_succ]; exact h4, h5⟩
theorem DVs.app : ∀ {ds es : List D} {vs us : List V}, DVs G ι H ds vs → DVs G ι H es us → DVs G ι H (ds ++ es) (vs ++ us)
  | [], _, _, _, h, t => by
    rw [show _ = [] from h]
    exact t
  | d :: ds, _, _, _, ⟨v, r, h1, h2, h3⟩, t => by
    rw [h1]
    exact ⟨v, _, rfl, h2, DVs.app h3 t⟩
theorem DVs.drop : ∀ {ds : List D} {vs : List V} (n : Nat), DVs G ι H ds vs → DVs G ι H (ds.drop n) (vs.drop n)
  | _, _, 0, h => h
  | [], _, n + 1, h => by
    rw [show _ = [] from h]
    rfl
  | d :: ds, _, n + 1, ⟨v, r, h1, h2, h3⟩ => by
    rw [h1]
    exact DVs.drop n h3
theorem DVs.take : ∀ {ds : List D} {vs : List V} (n : Nat), DVs G ι H ds vs → DVs G ι H (ds.take n) (vs.take n)
  | _, _, 0, h => rfl
  | [], _, n + 1, h => by
    rw [show _ = [] from h]
    rfl
  | d :: ds, _, n + 1, ⟨v, r, h1, h2, h3⟩ => by
    rw [h1]
    exact ⟨v, _, rfl, h2, DVs.take n h3⟩
theorem DVs.set {x : D} {u : V} (hx : DV G ι H x u) : ∀ {ds : List D} {vs : List V} (n : Nat), DVs G ι H ds vs → DVs G ι H (ds.set n x) (vs.set n u)
  | [], _, n, h => by
    rw [show _ = [] from h]
    rfl
  | d :: ds, _, 0, ⟨v, r, h1, h2, h3⟩ => by
    rw [h1]
    exact ⟨u, r, rfl, hx, h3⟩
  | d :: ds, _, n + 1, ⟨v, r, h1, h2, h3⟩ => by
    rw [h1]
    exact ⟨v, _, rfl, h2, DVs.set hx n h3⟩
theorem DVs.ints : ∀ {ds : List D} {vs : List V} {ns : List Int}, DVs G ι H ds vs → mapO asInt ds = some ns → vs = ns.map V.int
  | [], _, ns, h, e => by
    rw [show _ = [] from h]
    cases e
    rfl
  | d :: ds, _, ns, ⟨v, r, h1, h2, h3⟩, e => by
    cases d with
    | int i =>
      simp only [mapO, asInt] at e
      split at e
      · cases e
      · rename_i ys hy
        cases e
        rw [h1, DVs.ints h3 hy, show v = V.int i from h2]
        rfl
    | _ => simp [mapO, asInt] at e
theorem DVs.bls : ∀ {ds : List D} {vs : List V} {ns : List Bool}, DVs G ι H ds vs → mapO asBl ds = some ns → vs = ns.map V.bl
  | [], _, ns, h, e => by
    rw [show _ = [] from h]
    cases e
    rfl
  | d :: ds, _, ns, ⟨v, r, h1, h2, h3⟩, e => by
    cases d with
    | bl i =>
      simp only [mapO, asBl] at e
      split at e
      · cases e
      · rename_i ys hy
        cases e
        rw [h1, DVs.bls h3 hy, show v = V.bl i from h2]
        rfl
    | _ => simp [mapO, asBl] at e
theorem DVs.strs : ∀ {ds : List D} {vs : List V} {ns : List Str}, DVs G ι H ds vs → mapO asStr ds = some ns → vs = ns.map V.str
  | [], _, ns, h, e => by
    rw [show _ = [] from h]
    cases e
    rfl
  | d :: ds, _, ns, ⟨v, r, h1, h2, h3⟩, e => by
    cases d with
    | str i =>
      simp only [mapO, asStr] at e
      split at e
      · cases e
      · rename_i ys hy
        cases e
        rw [h1, DVs.strs h3 hy, show v = V.str i from h2]
        rfl
    | _ => simp [mapO, asStr] at e
end
theorem ndx {l : List Addr} (nd : l.Nodup) {i j : Nat} {x : Addr} (a : l[i]? = some x) (b : l[j]? = some x) : i = j := by
  obtain ⟨h1, e1⟩ := List.getElem?_eq_some_iff.mp a
  obtain ⟨h2, e2⟩ := List.getElem?_eq_some_iff.mp b
  exact (List.getElem_inj nd).mp (e1.trans e2.symm)
def CellOk (G : Wd) (ι : List Addr) (H : Hp) (a : Addr) : Cell → Prop
  | .lst ds => ∃ vs, H a = some (.lst vs) ∧ DVs G ι H ds vs
structure RH (G : Wd) (ι : List Addr) (h : AH) (H : Hp) : Prop where
  len : ι.length = h.length
  nd : ι.Nodup
  cell : ∀ (n : Nat) (a : Addr) (c : Cell), ι[n]? = some a → h[n]? = some c → CellOk G ι H a c
section
variable {G : Wd} {ι : List Addr} {h : AH} {H : Hp}
theorem RH.at (r : RH G ι h H) {n : Nat} {c : Cell} (e : h[n]? = some c) : ∃ a, ι[n]? = some a ∧ CellOk G ι H a c := by
  have hn : n < ι.length := by
    rw [r.len]
    exact (List.getElem?_eq_some_iff.mp e).1
  exact ⟨ι[n], by simp [hn], r.cell n _ c (by simp [hn]) e⟩
theorem RH.mem (r : RH G ι h H) {a : Addr} (ha : a ∈ ι) : ∃ o, H a = some o ∧ ¬ Fix o := by
  obtain ⟨n, hn, e⟩ := List.getElem_of_mem ha
  have hn' : n < h.length := by rw [← r.len]; exact hn
  have := r.cell n a h[n] (by simp [hn, e]) (by simp [hn'])
  cases q : h[n] with
  | lst ds =>
    rw [q] at this
    obtain ⟨vs, h1, _⟩ := this
    exact ⟨_, h1, fun z => z⟩
theorem RH.notIn (r : RH G ι h H) {p : Addr} (hp : H p = none) : p ∉ ι := fun hi => by
  obtain ⟨o, e, _⟩ := r.mem hi
  rw [hp] at e
  cases e
theorem CellOk.ext {ι' : List Addr} {H' : Hp} {a : Addr} {c : Cell} (x : CellOk G ι H a c) (e : Ext ι H ι' H') (ha : H' a = H a) : CellOk G ι' H' a c := by
  cases c with
  | lst ds =>
    obtain ⟨vs, h1, h2⟩ := x
    exact ⟨vs, ha.trans h1, DVs.ext e _ _ h2⟩
/-- a new thing that is no cell -/
theorem ext_new {p : Addr} {o : HO} (r : RH G ι h H) (hp : H p = none) : Ext ι H ι (upd H p o) := by
  refine ⟨List.prefix_refl _, fun _ z => .inl z, fun b u e _ => ?_, fun b u e _ => ?_⟩
  · rw [upd_ne (ne_of_none e hp)]; exact e
  · rw [upd_ne (ne_of_none e hp)]; exact e
theorem RH.new (r : RH G ι h H) {p : Addr} {o : HO} (hp : H p = none) : RH G ι h (upd H p o) :=
  ⟨r.len, r.nd, fun n a c e1 e2 => (r.cell n a c e1 e2).ext (ext_new r hp) (upd_ne fun z => r.notIn hp (by rw [← z]; exact List.mem_of_getElem? e1))⟩
/-- an object at p, outside the cells, gets a place among them -/
theorem ext_push {p : Addr} (r : RH G ι h H) (hp : H p = none) {o : HO} : Ext ι H (ι ++ [p]) (upd H p o) := by
  refine ⟨List.prefix_append _ _, fun x hx => ?_, (ext_new r hp).keep, (ext_new r hp).fix⟩
  rcases List.mem_append.mp hx with z | z
  · exact .inl z
  · exact .inr (by rw [List.mem_singleton.mp z]; exact hp)
theorem RH.push (r : RH G ι h H) {p : Addr} {ds : List D} {vs : List V} (hp : H p = none) (hv : DVs G ι H ds vs) : RH G (ι ++ [p]) (h ++ [.lst ds]) (upd H p (.lst vs)) := by
  have e := ext_push r hp (o := .lst vs)
  refine ⟨by simp [r.len], ?_, fun n a c e1 e2 => ?_⟩
  · refine List.nodup_append.mpr ⟨r.nd, by simp, fun a ha b hb z => ?_⟩
    subst z
    rw [List.mem_singleton.mp hb] at ha
    exact r.notIn hp ha
  · by_cases hn : n < ι.length
    · rw [List.getElem?_append_left hn] at e1
      rw [List.getElem?_append_left (by rw [← r.len]; exact hn)] at e2
      exact (r.cell n a c e1 e2).ext e (upd_ne fun z => r.notIn hp (by rw [← z]; exact List.mem_of_getElem? e1))
    · have hlt := (List.getElem?_eq_some_iff.mp e1).1
      rw [List.length_append, List.length_singleton] at hlt
      have hn' : n = ι.length := by omega
      subst hn'
      rw [List.getElem?_append_right (Nat.le_refl _), Nat.sub_self] at e1
      rw [r.len, List.getElem?_append_right (Nat.le_refl _), Nat.sub_self] at e2
      cases e1
      cases e2
      exact ⟨vs, upd_same, DVs.ext e _ _ hv⟩
theorem CellOk.mono {ι' : List Addr} {a : Addr} {c : Cell} (x : CellOk G ι H a c) (p : ι <+: ι') : CellOk G ι' H a c := by
  cases c with
  | lst ds =>
    obtain ⟨vs, h1, h2⟩ := x
    exact ⟨vs, h1, DVs.mono p (fun _ _ e _ => e) _ _ h2⟩
/-- a list that stands outside the cells becomes one -/
theorem RH.adopt (r : RH G ι h H) {p : Addr} {ds : List D} {vs : List V} (hp : H p = some (.lst vs)) (hn : p ∉ ι) (hv : DVs G ι H ds vs) : RH G (ι ++ [p]) (h ++ [.lst ds]) H := by
  refine ⟨by simp [r.len], ?_, fun n a c e1 e2 => ?_⟩
  · refine List.nodup_append.mpr ⟨r.nd, by simp, fun a ha b hb z => ?_⟩
    subst z
    rw [List.mem_singleton.mp hb] at ha
    exact hn ha
  · by_cases hlt : n < ι.length
    · rw [List.getElem?_append_left hlt] at e1
      rw [List.getElem?_append_left (by rw [← r.len]; exact hlt)] at e2
      exact (r.cell n a c e1 e2).mono (List.prefix_append _ _)
    · have hl := (List.getElem?_eq_some_iff.mp e1).1
      rw [List.length_append, List.length_singleton] at hl
      have hn' : n = ι.length := by omega
      subst hn'
      rw [List.getElem?_append_right (Nat.le_refl _), Nat.sub_self] at e1
      rw [r.len, List.getElem?_append_right (Nat.le_refl _), Nat.sub_self] at e2
      cases e1
      cases e2
      exact ⟨vs, hp, DVs.mono (List.prefix_append _ _) (fun _ _ e _ => e) _ _ hv⟩
/-- a cell is written -/
theorem ext_set {a : Addr} {vs : List V} (r : RH G ι h H) (ha : a ∈ ι) {o : HO} : Ext ι H ι (upd H a o) := by
  obtain ⟨u, hu, nf⟩ := r.mem ha
  refine ⟨List.prefix_refl _, fun _ z => .inl z, fun b x e hb => ?_, fun b x e hf => ?_⟩
  · rw [upd_ne fun z => hb (by rw [z]; exact ha)]; exact e
  · rw [upd_ne fun z => ?_]; exact e
    rw [z, hu] at e
    cases e
    exact nf hf
theorem RH.set (r : RH G ι h H) {n : Nat} {a : Addr} {ds : List D} {vs : List V} (ha : ι[n]? = some a) (hv : DVs G ι H ds vs) : RH G ι (h.set n (.lst ds)) (upd H a (.lst vs)) := by
  have hm := List.mem_of_getElem? ha
  have e := ext_set (vs := vs) r hm (o := .lst vs)
  refine ⟨by simp [r.len], r.nd, fun m b c e1 e2 => ?_⟩
  by_cases hmn : m = n
  · subst hmn
    rw [ha] at e1
    cases e1
    have hlt : m < h.length := by
      rw [← r.len]
      exact (List.getElem?_eq_some_iff.mp ha).1
    rw [List.getElem?_set_self hlt] at e2
    cases e2
    exact ⟨vs, upd_same, DVs.ext e _ _ hv⟩
  · rw [List.getElem?_set_ne (Ne.symm hmn)] at e2
    refine (r.cell m b c e1 e2).ext e (upd_ne fun z => hmn ?_)
    subst z
    exact ndx r.nd e1 ha
end

/-! ### what is wanted behind an evaluation -/
/-- how an evaluation's value lies: from the start (ι, H), at (ι', H') -/
structure Rl (α β : Type) where
  r : List Addr → Hp → List Addr → Hp → α → β → Prop
  sh : ∀ (ι : List Addr) (H : Hp) (ι1 : List Addr) (H1 : Hp) (ι2 : List Addr) (H2 : Hp) (a : α) (b : β), Ext ι H ι1 H1 → Ext ι1 H1 ι2 H2 → r ι1 H1 ι2 H2 a b → r ι H ι2 H2 a b
def Pst {α β : Type} (G : Wd) (rel : Rl α β) (ι : List Addr) (H : Hp) (r : R α) (Q : β → Hp → Prop) (E : XK) : Prop := match r with
  | .ok a h' => ∀ (ι' : List Addr) (H' : Hp) (b : β), Ext ι H ι' H' → RH G ι' h' H' → rel.r ι H ι' H' a b → Q b H'
  | .exc c v h' => ∀ (ι' : List Addr) (H' : Hp) (dx : Addr) (vv : V), Ext ι H ι' H' → RH G ι' h' H' → H' dx = some (.xd [(G.fld c, vv)]) → DV G ι' H' v vv → E (.ref (G.ca c)) (some dx) H'
  | .bad => False
section
variable {α β γ δ : Type} {G : Wd} {rel : Rl α β} {rel2 : Rl γ δ} {ι ι1 : List Addr} {H H1 : Hp} {r : R α} {Q : β → Hp → Prop} {E : XK}
theorem Pst.shift (h : Pst G rel ι H r Q E) (e : Ext ι H ι1 H1) : Pst G rel ι1 H1 r Q E := by
  cases r with
  | ok a h' => exact fun ι' H' b e' rh rl => h ι' H' b (e.trans e') rh (rel.sh _ _ _ _ _ _ _ _ e e' rl)
  | exc c v h' => exact fun ι' H' dx vv e' => h ι' H' dx vv (e.trans e')
  | bad => exact h
theorem Pst.step {f : α → AH → R γ} {Q2 : δ → Hp → Prop} (h : Pst G rel2 ι H (r.bind f) Q2 E) (k : ∀ a h1 ι1 H1 b, Ext ι H ι1 H1 → RH G ι1 h1 H1 → rel.r ι H ι1 H1 a b → Pst G rel2 ι1 H1 (f a h1) Q2 E → Q b H1) : Pst G rel ι H r Q E := by
  cases r with
  | ok a h' => exact fun ι' H' b e' rh rl => k a h' ι' H' b e' rh rl (Pst.shift (show Pst G rel2 ι H (f a h') Q2 E from h) e')
  | exc c v h' => exact h
  | bad => exact h
theorem Pst.step' {f : α → AH → R γ} {Q2 : δ → Hp → Prop} (h : Pst G rel2 ι H (r.bind f) Q2 E) (k : ∀ a h1 ι1 H1 b, r = .ok a h1 → Ext ι H ι1 H1 → RH G ι1 h1 H1 → rel.r ι H ι1 H1 a b → Pst G rel2 ι1 H1 (f a h1) Q2 E → Q b H1) : Pst G rel ι H r Q E := by
  cases r with
  | ok a h' => exact fun ι' H' b e' rh rl => k a h' ι' H' b rfl e' rh rl (Pst.shift (show Pst G rel2 ι H (f a h') Q2 E from h) e')
  | exc c v h' => exact h
  | bad => exact h
theorem Pst.mono {Q2 : β → Hp → Prop} {E2 : XK} (h : Pst G rel ι H r Q E) (k : ∀ b H, Q b H → Q2 b H) (ke : ∀ c d H, E c d H → E2 c d H) : Pst G rel ι H r Q2 E2 := by
  cases r with
  | ok a h' => exact fun ι' H' b e rh rl => k _ _ (h ι' H' b e rh rl)
  | exc c v h' => exact fun ι' H' dx vv e1 e2 e3 e4 => ke _ _ _ (h ι' H' dx vv e1 e2 e3 e4)
  | bad => exact h
end
def rD (G : Wd) : Rl D V := ⟨fun _ _ ι' H' d v => DV G ι' H' d v, fun _ _ _ _ _ _ _ _ _ _ h => h⟩
def rDs (G : Wd) : Rl (List D) (List V) := ⟨fun _ _ ι' H' d v => DVs G ι' H' d v, fun _ _ _ _ _ _ _ _ _ _ h => h⟩
def rX (α : Type) : Rl α α := ⟨fun _ _ _ _ a b => a = b, fun _ _ _ _ _ _ _ _ _ _ h => h⟩
/-- a list that has just been made, no cell -/
def rL (G : Wd) : Rl (List D) V := ⟨fun ι H ι' H' ds v => ∃ a vs, v = .ref a ∧ H' a = some (.lst vs) ∧ a ∉ ι' ∧ H a = none ∧ DVs G ι' H' ds vs, fun ι H ι1 H1 ι2 H2 _ _ e e' ⟨a, vs, h1, h2, h3, h4, h5⟩ => by
  refine ⟨a, vs, h1, h2, h3, ?_, h5⟩
  cases q : H a with
  | none => rfl
  | some o =>
    have := e.keep a o q fun z => h3 ((e.pre.trans e'.pre).subset z)
    rw [h4] at this
    cases this⟩
/-- slots -/
structure RS (G : Wd) (ι : List Addr) (H : Hp) (env : En) (σ : L2.St) : Prop where
  len : env.length = σ.length
  at_ : ∀ (i : Nat) (d : D), env[i]? = some (some d) → ∃ v : V, σ[i]? = some (some v) ∧ DV G ι H d v
theorem RS.ext {G : Wd} {ι ι' : List Addr} {H H' : Hp} {env : En} {σ : L2.St} (r : RS G ι H env σ) (e : Ext ι H ι' H') : RS G ι' H' env σ :=
  ⟨r.len, fun i d x => let ⟨v, h1, h2⟩ := r.at_ i d x; ⟨v, h1, DV.ext e d v h2⟩⟩
theorem RS.set {G : Wd} {ι : List Addr} {H : Hp} {env : En} {σ : L2.St} (r : RS G ι H env σ) {i : Nat} {d : D} {v : V} (h : DV G ι H d v) : RS G ι H (env.set i (some d)) (σ.set i (some v)) := by
  refine ⟨by simp [r.len], fun j x e => ?_⟩
  by_cases hj : j = i
  · subst hj
    have hlt : j < env.length := by
      have := (List.getElem?_eq_some_iff.mp e).1
      simpa using this
    rw [List.getElem?_set_self hlt] at e
    cases e
    exact ⟨v, List.getElem?_set_self (by rw [← r.len]; exact hlt), h⟩
  · rw [List.getElem?_set_ne (Ne.symm hj)] at e
    rw [List.getElem?_set_ne (Ne.symm hj)]
    exact r.at_ j x e
def rEn (G : Wd) : Rl En L2.St := ⟨fun _ _ ι' H' env σ => RS G ι' H' env σ, fun _ _ _ _ _ _ _ _ _ _ h => h⟩
inductive Out where
  | nx (σ : L2.St) | rt (v : V) | bk (σ : L2.St) | ct (σ : L2.St)
def Out.want (D : Ends) : Out → Hp → Prop
  | .nx σ, H => D.nx σ H
  | .rt v, H => D.rt v H
  | .bk σ, H => D.bk σ H
  | .ct σ, H => D.ct σ H
def rF (G : Wd) : Rl Fl Out := ⟨fun _ _ ι' H' f o => match f, o with
  | .nx env, .nx σ => RS G ι' H' env σ
  | .rt d, .rt v => DV G ι' H' d v
  | .bk env, .bk σ => RS G ι' H' env σ
  | .ct env, .ct σ => RS G ι' H' env σ
  | _, _ => False, fun _ _ _ _ _ _ _ _ _ _ h => h⟩
/-- an iterator that yields what is told, as long as the cells in deps stand -/
def Yields (G : Wd) (ι0 : List Addr) (H0 : Hp) (J : It) (src : List D × List (Nat × Cell)) : Prop :=
  ∀ (ι : List Addr) (h : AH) (H : Hp), Ext ι0 H0 ι H → RH G ι h H → depsOk src.2 h = true →
    (∀ (i : Nat) (d : D), src.1[i]? = some d → J.go i H ∧ ∀ x H', J.yld i H x H' → Ext ι H ι H' ∧ RH G ι h H' ∧ DV G ι H' d x) ∧ ∀ i : Nat, src.1.length ≤ i → J.stop i H
theorem Yields.ext {G : Wd} {ι0 ι1 : List Addr} {H0 H1 : Hp} {J : It} {src : List D × List (Nat × Cell)} (y : Yields G ι0 H0 J src) (e : Ext ι0 H0 ι1 H1) : Yields G ι1 H1 J src := fun ι h H e' => y ι h H (e.trans e')
def rI (G : Wd) : Rl (List D × List (Nat × Cell)) It := ⟨fun _ _ ι' H' src J => Yields G ι' H' J src, fun _ _ _ _ _ _ _ _ _ _ h => h⟩
end RV
set_option Elab.async false
set_option linter.all false
set_option maxRecDepth 100000
set_option autoImplicit false
set_option maxHeartbeats 1000000
/-! Part 2: the primitive operations, over the layer's rules. -/
namespace RV
open PySem PySem.Spec PyProof.Rows L2

structure Gd (G : Wd) (S : Scope) (N : List Str) (k : Nat) (X : Cx) : Prop where
  prog : X.prog = G.P
  w : X.w = G.w
  K : X.K = G.K
  mg : X.mg = G.mg
  base : X.base = G.base
  sc : X.env.scope = S
  names : X.N = N
  nd : N.Nodup
  calm : X.calm = true
  room : Room k X.A
  gd : X.A.guards = some []
theorem SZ_eq : SZ = sizeLine := sizeLine_eq.symm
theorem isEmpty_dvs {G : Wd} {ι : List Addr} {H : Hp} {ds : List D} {vs : List V} (h : DVs G ι H ds vs) : (!ds.isEmpty) = !vs.isEmpty := by
  have := h.len
  cases ds <;> cases vs <;> simp_all
section
variable {G : Wd} {ι : List Addr} {ah : AH} {H : Hp}
theorem tru_of (rh : RH G ι ah H) {d : D} {v : V} {k : Bool} (h : DV G ι H d v) (e : truthy d ah = some k) : TruV G.K v H k := by
  cases d with
  | non => rw [show v = V.non from h]; cases e; rfl
  | bl b => rw [show v = V.bl b from h]; cases e; rfl
  | int i => rw [show v = V.int i from h]; cases e; rfl
  | str x =>
    rw [show v = V.str x from h]
    simp only [truthy] at e
    split at e
    · cases e
      rename_i hz
      exact ⟨by rw [← SZ_eq]; exact hz, rfl⟩
    · cases e
  | tup ds =>
    obtain ⟨a, vs, rfl, h1, h2⟩ := h
    cases e
    exact .inr (.inl ⟨vs, h1, isEmpty_dvs h2⟩)
  | rol ds =>
    obtain ⟨a, vs, rfl, h1, h2⟩ := h
    cases e
    exact .inl ⟨vs, h1.sq, isEmpty_dvs h2⟩
  | ref n =>
    obtain ⟨a, h1, rfl⟩ := h
    simp only [truthy] at e
    split at e
    · rename_i ds hc
      cases e
      obtain ⟨vs, h2, h3⟩ := rh.cell n a _ h1 hc
      exact .inl ⟨vs, SqL.of h2, isEmpty_dvs h3⟩
    · cases e
  | fn j => cases e
/-- a list or a tuple, as seqOf reads it -/
theorem seq_of (rh : RH G ι ah H) {d : D} {v : V} {ds : List D} (h : DV G ι H d v) (e : seqOf d ah = some ds) : ∃ a vs, v = .ref a ∧ (SqL G.K H a vs ∨ SqT G.K H a vs) ∧ DVs G ι H ds vs := by
  cases d with
  | tup es =>
    obtain ⟨a, vs, rfl, h1, h2⟩ := h
    cases e
    exact ⟨a, vs, rfl, .inr h1, h2⟩
  | rol es =>
    obtain ⟨a, vs, rfl, h1, h2⟩ := h
    cases e
    exact ⟨a, vs, rfl, .inl h1.sq, h2⟩
  | ref n =>
    obtain ⟨a, h1, rfl⟩ := h
    simp only [seqOf] at e
    split at e
    · rename_i es hc
      cases e
      obtain ⟨vs, h2, h3⟩ := rh.cell n a _ h1 hc
      exact ⟨a, vs, rfl, .inl (SqL.of h2), h3⟩
    · cases e
  | _ => cases e
/-! ### data as the library has it -/
theorem toP_ok (rh : RH G ι ah H) : ∀ (n : Nat) (d : D) (p : PyData) (v : V), toP n ah d = some p → DV G ι H d v → Dp G.K H v p ∧ p.depth ≤ n ∧ p.canLay0 = true ∧ p.hasDict = false := by
  intro n
  induction n with
  | zero => intro d p v e; simp [toP] at e
  | succ n ih =>
    have all : ∀ (ds : List D) (ps : List PyData) (vs : List V), mapO (toP n ah) ds = some ps → DVs G ι H ds vs → DpAll G.K H vs ps ∧ PyData.depthAll ps ≤ n ∧ PyData.canLayAll0 ps = true ∧ PyData.hasDictAll ps = false := by
      intro ds
      induction ds with
      | nil =>
        intro ps vs e h
        cases e
        rw [show vs = [] from h]
        exact ⟨.nil, Nat.zero_le _, rfl, rfl⟩
      | cons d ds ihd =>
        intro ps vs e h
        obtain ⟨v, r, rfl, h1, h2⟩ := h
        simp only [mapO] at e
        split at e
        · cases e
        · rename_i p hp
          split at e
          · cases e
          · rename_i qs hq
            cases e
            obtain ⟨a1, a2, a3, a4⟩ := ih d p v hp h1
            obtain ⟨b1, b2, b3, b4⟩ := ihd qs r hq h2
            exact ⟨.cons a1 b1, by simp only [PyData.depthAll]; omega, by simp only [PyData.canLayAll0, a3, b3, Bool.and_self], by simp only [PyData.hasDictAll, a4, b4, Bool.or_self]⟩
    intro d p v e h
    cases d with
    | non => cases e; rw [show v = V.non from h]; exact ⟨.non, Nat.zero_le _, rfl, rfl⟩
    | bl b => cases e; rw [show v = V.bl b from h]; exact ⟨.bl b, Nat.zero_le _, rfl, rfl⟩
    | int i => cases e; rw [show v = V.int i from h]; exact ⟨.int i, Nat.zero_le _, rfl, rfl⟩
    | str x =>
      simp only [toP] at e
      split at e
      · rename_i hz
        cases e
        rw [show v = V.str x from h]
        exact ⟨.str x, Nat.zero_le _, hz, rfl⟩
      · cases e
    | tup ds =>
      obtain ⟨a, vs, rfl, h1, h2⟩ := h
      simp only [toP] at e
      split at e
      · cases e
      · rename_i ps hp
        cases e
        obtain ⟨a1, a2, a3, a4⟩ := all ds ps vs hp h2
        exact ⟨.tup h1 a1, by simp only [PyData.depth]; omega, by simp only [PyData.canLay0, a3], by simp only [PyData.hasDict, a4]⟩
    | rol ds =>
      obtain ⟨a, vs, rfl, h1, h2⟩ := h
      simp only [toP] at e
      split at e
      · cases e
      · rename_i ps hp
        cases e
        obtain ⟨a1, a2, a3, a4⟩ := all ds ps vs hp h2
        exact ⟨.lst h1.sq a1, by simp only [PyData.depth]; omega, by simp only [PyData.canLay0, a3], by simp only [PyData.hasDict, a4]⟩
    | ref m =>
      obtain ⟨a, h1, rfl⟩ := h
      simp only [toP] at e
      split at e
      · rename_i ds hc
        split at e
        · cases e
        · rename_i ps hp
          cases e
          obtain ⟨vs, h2, h3⟩ := rh.cell m a _ h1 hc
          obtain ⟨a1, a2, a3, a4⟩ := all ds ps vs hp h3
          exact ⟨.lst (SqL.of h2) a1, by simp only [PyData.depth]; omega, by simp only [PyData.canLay0, a3], by simp only [PyData.hasDict, a4]⟩
      · cases e
    | fn j => simp [toP] at e
theorem shaped_ok {p : PyData} (h1 : p.depth ≤ 60) (h2 : p.canLay0 = true) : SeqAt.shaped p = true := by
  unfold SeqAt.shaped
  rw [h2, Bool.true_and, decide_eq_true_eq]
  omega
end
section
variable {G : Wd} {S : Scope} {N : List Str} {k : Nat} {X : Cx} {ι : List Addr} {ah : AH} {H : Hp} {Q : VK} {E : XK}
/-! ### comparisons -/
def rCmp (G : Wd) (o : CmpOp) : R2 := fun x y H Q => ∃ ι ah d e c, RH G ι ah H ∧ DV G ι H d x ∧ DV G ι H e y ∧ cmpP o d e ah = some c ∧ Q (.bl c) H
theorem deq_eq (g : Gd G S N k X) {pins : List (Addr × Obj)} {s : Shared} {σ : L2.St} {H : Hp} {x y : V} {v u : Value} {Q : VK} (I : Inv X pins σ H s) (rx : RelV x v) (ry : RelV y u) {ι : List Addr} {ah : AH} {d e : D} {c : Bool}
    (rh : RH G ι ah H) (hd : DV G ι H d x) (he : DV G ι H e y) (h : deq d e ah = some c) :
    (Q (.bl c) H → wpAny (model X.prog X.w) X.A (compareOp .Eq v u) (EP X pins σ Q) X.xe s) ∧ (Q (.bl (!c)) H → wpAny (model X.prog X.w) X.A (compareOp .NotEq v u) (EP X pins σ Q) X.xe s) := by
  unfold deq at h
  split at h
  · cases h
    cases (show x = .int _ from hd)
    cases (show y = .int _ from he)
    refine ⟨fun q => op_eq pins s σ H _ _ v u Q I rx ry ⟨rfl, ?_⟩, fun q => op_ne pins s σ H _ _ v u Q I rx ry ⟨rfl, ?_⟩⟩
    · simpa using q
    · simpa using q
  · cases h
    cases (show x = .str _ from hd)
    cases (show y = .str _ from he)
    refine ⟨fun q => op_eq pins s σ H _ _ v u Q I rx ry ⟨rfl, ?_⟩, fun q => op_ne pins s σ H _ _ v u Q I rx ry ⟨rfl, ?_⟩⟩
    · simpa using q
    · simpa using q
  · cases h
    cases (show x = .bl _ from hd)
    cases (show y = .bl _ from he)
    refine ⟨fun q => op_eq pins s σ H _ _ v u Q I rx ry ⟨rfl, ?_⟩, fun q => op_ne pins s σ H _ _ v u Q I rx ry ⟨rfl, ?_⟩⟩
    · simpa using q
    · simpa using q
  · cases h
    cases (show x = .non from hd)
    cases (show y = .non from he)
    refine ⟨fun q => op_eq pins s σ H _ _ v u Q I rx ry ⟨rfl, ?_⟩, fun q => op_ne pins s σ H _ _ v u Q I rx ry ⟨rfl, ?_⟩⟩
    · simpa using q
    · simpa using q
  · split at h
    · rename_i p q hp hq
      cases h
      obtain ⟨a1, a2, a3, _⟩ := toP_ok rh DEEP d p x hp hd
      obtain ⟨b1, b2, b3, _⟩ := toP_ok rh DEEP e q y hq he
      rw [← g.K] at a1 b1
      exact ⟨fun z => op_eqD g.room.units pins s σ H x y v u Q I rx ry ⟨p, q, a1, b1, shaped_ok a2 a3, shaped_ok b2 b3, z⟩,
        fun z => op_neD g.room.units pins s σ H x y v u Q I rx ry ⟨p, q, a1, b1, shaped_ok a2 a3, shaped_ok b2 b3, z⟩⟩
    · cases h
theorem in_eq (g : Gd G S N k X) {pins : List (Addr × Obj)} {s : Shared} {σ : L2.St} {H : Hp} {x y : V} {v u : Value} {Q : VK} (I : Inv X pins σ H s) (rx : RelV x v) (ry : RelV y u) {ι : List Addr} {ah : AH} {d e : D} {c : Bool}
    (rh : RH G ι ah H) (hd : DV G ι H d x) (he : DV G ι H e y) (h : inP d e ah = some c) :
    (Q (.bl c) H → wpAny (model X.prog X.w) X.A (compareOp .In v u) (EP X pins σ Q) X.xe s) ∧ (Q (.bl (!c)) H → wpAny (model X.prog X.w) X.A (compareOp .NotIn v u) (EP X pins σ Q) X.xe s) := by
  have hu := g.room.units
  have hun := g.room.un
  unfold inP at h
  split at h
  · split at h
    · rename_i a z hz
      cases h
      cases (show x = .str _ from hd)
      cases (show y = .str _ from he)
      have ea : a = ⟨#[a.cps.getD 0 0]⟩ := by
        obtain ⟨⟨l⟩⟩ := a
        match l, hz with
        | [b], _ => rfl
      refine ⟨fun q => op_in_sign pins s σ H _ _ v u Q I rx ry ⟨_, _, congrArg V.str ea, rfl, q⟩, fun q => op_notIn_sign pins s σ H _ _ v u Q I rx ry ⟨_, _, congrArg V.str ea, rfl, q⟩⟩
    · cases h
  · split at h
    · rename_i p ps hp hq
      cases h
      obtain ⟨a1, a2, a3, _⟩ := toP_ok rh DEEP d p x hp hd
      obtain ⟨b1, b2, b3, _⟩ := toP_ok rh DEEP e _ y hq he
      rw [← g.K] at a1 b1
      exact ⟨fun z => op_inD (by omega) pins s σ H x y v u Q I rx ry ⟨p, ps, a1, b1, shaped_ok a2 a3, shaped_ok b2 b3, z⟩,
        fun z => op_notInD (by omega) pins s σ H x y v u Q I rx ry ⟨p, ps, a1, b1, shaped_ok a2 a3, shaped_ok b2 b3, z⟩⟩
    · rename_i p ps hp hq
      cases h
      obtain ⟨a1, a2, a3, _⟩ := toP_ok rh DEEP d p x hp hd
      obtain ⟨b1, b2, b3, _⟩ := toP_ok rh DEEP e _ y hq he
      rw [← g.K] at a1 b1
      obtain ⟨as, r1⟩ := Dp.reads I p x v a1 rx
      obtain ⟨bs, r2⟩ := Dp.reads I _ y u b1 ry
      have b3' : PyData.canLayAll0 ps = true := b3
      have hD : DEEP = 60 := rfl
      exact ⟨fun z => SeqAt.in_tuple_reads r2 r1 b3' a3 (by omega) ⟨.bl _, H, I, rfl, z⟩, fun z => SeqAt.notIn_tuple_reads r2 r1 b3' a3 (by omega) ⟨.bl _, H, I, rfl, z⟩⟩
    · cases h
theorem snd_cmp (g : Gd G S N k X) (o : CmpOp) : OpR X (compareOp o) (rCmp G o) := by
  intro pins s σ H x y v u Q I rx ry ⟨ι, ah, d, e, c, rh, hd, he, h, q⟩
  cases o with
  | Lt =>
    simp only [cmpP] at h
    split at h
    · cases h
      exact op_lt pins s σ H x y v u Q I rx ry ⟨_, _, hd, he, q⟩
    · cases h
  | LtE =>
    simp only [cmpP] at h
    split at h
    · cases h
      exact op_le pins s σ H x y v u Q I rx ry ⟨_, _, hd, he, q⟩
    · cases h
  | Gt =>
    simp only [cmpP] at h
    split at h
    · cases h
      exact op_gt pins s σ H x y v u Q I rx ry ⟨_, _, hd, he, q⟩
    · cases h
  | GtE =>
    simp only [cmpP] at h
    split at h
    · cases h
      exact op_ge pins s σ H x y v u Q I rx ry ⟨_, _, hd, he, q⟩
    · cases h
  | Eq => exact (deq_eq g I rx ry rh hd he h).1 q
  | NotEq =>
    simp only [cmpP] at h
    split at h
    · rename_i b hb
      cases h
      exact (deq_eq g I rx ry rh hd he hb).2 q
    · cases h
  | Is =>
    simp only [cmpP] at h
    split at h
    · cases h
      refine op_isN pins s σ H x y v u Q I rx ry ⟨he, ?_⟩
      rwa [show decide (x = V.non) = decide (d = D.non) from ?_]
      cases d <;> simp only [DV] at hd <;> first
        | (subst hd; simp)
        | (obtain ⟨_, _, rfl, _⟩ := hd; simp)
        | (obtain ⟨_, _, rfl⟩ := hd; simp)
    · cases h
  | IsNot =>
    simp only [cmpP] at h
    split at h
    · cases h
      refine op_notN pins s σ H x y v u Q I rx ry ⟨he, ?_⟩
      rwa [show decide (x = V.non) = decide (d = D.non) from ?_]
      cases d <;> simp only [DV] at hd <;> first
        | (subst hd; simp)
        | (obtain ⟨_, _, rfl, _⟩ := hd; simp)
        | (obtain ⟨_, _, rfl⟩ := hd; simp)
    · cases h
  | In => exact (in_eq g I rx ry rh hd he h).1 q
  | NotIn =>
    simp only [cmpP] at h
    split at h
    · rename_i b hb
      cases h
      exact (in_eq g I rx ry rh hd he hb).2 q
    · cases h
/-! ### arithmetic -/
def rOp (G : Wd) (o : Operator) : R2 := fun x y H Q => ∃ ι ah d e E, RH G ι ah H ∧ DV G ι H d x ∧ DV G ι H e y ∧ Pst G (rD G) ι H (prim2 o d e ah) Q E
theorem log_of {n a : Nat} (h0 : 0 < a) (h : n < 2 ^ a) : n.log2 < a := PySem.Flt.log2_lt_of h0 h
theorem mul_ok {i j : Int} (h1 : i.natAbs < BIG) (h2 : j.natAbs < BIG) : CMulW i j := wide_mul (a := 400000) (b := 400000) h1 h2 (by decide) (by decide) (by decide)
theorem div_ok {i j : Int} (h1 : 0 < j) (h2 : j.natAbs < DBIG) : CDivW i j := wide_div (b := 8900) h1 h2 (by decide) (by decide)
theorem iop_mulB : OpR X (inplaceOp .Mult) (L2.rI CMulW fun i j => .int (i * j)) := opI fun _ _ _ _ _ _ _ hc q => imul_int q hc.ok
theorem rOp_le (o : Operator) {r : R2} (h : ∀ x y H Q, rOp G o x y H Q → r x y H Q) (f : Value → Value → Sem Value) (hr : OpR X f r) : OpR X f (rOp G o) :=
  fun pins s σ H x y v u Q I rx ry q => hr pins s σ H x y v u Q I rx ry (h _ _ _ _ q)
theorem fin_tup (rh : RH G ι ah H) {ds : List D} {vs : List V} (hv : DVs G ι H ds vs) (h : Pst G (rD G) ι H (.ok (.tup ds) ah) Q E) : ∀ p, H p = none → Q (.ref p) (upd H p (.tup vs)) :=
  fun p hp => h ι _ _ (ext_new rh hp) (rh.new hp) ⟨p, vs, rfl, SqT.of upd_same, DVs.ext (ext_new rh hp) _ _ hv⟩
theorem fin_lst (rh : RH G ι ah H) {ds : List D} {vs : List V} (hv : DVs G ι H ds vs) (h : Pst G (rD G) ι H (new (.lst ds) ah) Q E) : ∀ p, H p = none → Q (.ref p) (upd H p (.lst vs)) :=
  fun p hp => h (ι ++ [p]) _ _ (ext_push rh hp) (rh.push hp hv) ⟨p, by rw [← rh.len, List.getElem?_append_right (Nat.le_refl _), Nat.sub_self]; rfl, rfl⟩
theorem fin_at (rh : RH G ι ah H) {d : D} {v : V} (h : Pst G (rD G) ι H (.ok d ah) Q E) (hv : DV G ι H d v) : Q v H := h ι H v .refl rh hv
theorem DVs.isNil {ds : List D} {vs : List V} (h : DVs G ι H ds vs) : vs = [] ↔ ds = [] := by
  have := h.len
  cases ds <;> cases vs <;> simp_all
theorem DVs.rep {ds : List D} {vs : List V} (h : DVs G ι H ds vs) : ∀ n : Nat, DVs G ι H (List.replicate n ds).flatten (List.replicate n vs).flatten
  | 0 => rfl
  | n + 1 => by
    rw [List.replicate_succ, List.replicate_succ, List.flatten_cons, List.flatten_cons]
    exact h.app (DVs.rep h n)
theorem sz_le {n : Nat} (h : n ≤ SZ) : n ≤ sizeLine := by rw [← SZ_eq]; exact h
/-- t + u -/
theorem cat_fin (g : Gd G S N k X) {f : Value → Value → Sem Value} (hf : OpR X f (rCatA X.K)) {pins : List (Addr × Obj)} {s : Shared} {σ : L2.St} {x y : V} {v u : Value} (I : Inv X pins σ H s) (rx : RelV x v) (ry : RelV y u) {a b : List D}
    (rh : RH G ι ah H) (hd : DV G ι H (.tup a) x) (he : DV G ι H (.tup b) y) (hz : a.length + b.length ≤ SZ) (h : Pst G (rD G) ι H (.ok (.tup (a ++ b)) ah) Q E) : wpAny (model X.prog X.w) X.A (f v u) (EP X pins σ Q) X.xe s := by
  obtain ⟨p, vs, rfl, h1, h2⟩ := hd
  obtain ⟨q, us, rfl, h3, h4⟩ := he
  refine hf pins s σ H _ _ v u Q I rx ry ⟨p, q, vs, us, rfl, rfl, by rw [g.K]; exact h1, by rw [g.K]; exact h3, by rw [h2.len, h4.len]; exact sz_le hz, fun e => ?_, fun n e => ?_, fun n m => ?_⟩
  · have e' := h2.isNil.mp e
    subst e'
    exact fin_at rh h ⟨q, us, rfl, h3, h4⟩
  · have e' := h4.isNil.mp e
    subst e'
    rw [List.append_nil] at h
    exact fin_at rh h ⟨p, vs, rfl, h1, h2⟩
  · exact fin_tup rh (h2.app h4) h
theorem snd_op (g : Gd G S N k X) (o : Operator) : OpR X (binaryOp o) (rOp G o) := by
  intro pins s σ H x y v u Q I rx ry ⟨ι, ah, d, e, E, rh, hd, he, h⟩
  unfold prim2 at h
  split at h
  · exact op_add pins s σ H x y v u Q I rx ry ⟨_, _, hd, he, h ι H _ .refl rh rfl⟩
  · split at h
    · rename_i hz
      exact op_add_str pins s σ H x y v u Q I rx ry ⟨_, _, hd, he, by rw [← SZ_eq]; exact hz, h ι H _ .refl rh rfl⟩
    · exact h.elim
  · split at h
    · rename_i hz
      exact cat_fin g op_catA I rx ry rh hd he hz h
    · exact h.elim
  · split at h
    · rename_i h1 h2
      split at h
      · rename_i hz
        obtain ⟨p, e1, rfl⟩ := hd
        obtain ⟨q, e2, rfl⟩ := he
        obtain ⟨vs, e3, e4⟩ := rh.cell _ p _ e1 h1
        obtain ⟨us, e5, e6⟩ := rh.cell _ q _ e2 h2
        exact op_cat pins s σ H _ _ v u Q I rx ry ⟨p, q, vs, us, rfl, rfl, e3, e5, by rw [e4.len, e6.len]; exact sz_le hz, fin_lst rh (e4.app e6) h⟩
      · exact h.elim
    · exact h.elim
  · exact op_sub pins s σ H x y v u Q I rx ry ⟨_, _, hd, he, h ι H _ .refl rh rfl⟩
  · split at h
    · rename_i hz
      exact op_mulW pins s σ H x y v u Q I rx ry ⟨_, _, hd, he, mul_ok hz.1 hz.2, h ι H _ .refl rh rfl⟩
    · exact h.elim
  · split at h
    · rename_i h1
      split at h
      · rename_i hz
        obtain ⟨p, e1, rfl⟩ := hd
        obtain ⟨vs, e3, e4⟩ := rh.cell _ p _ e1 h1
        exact op_rep pins s σ H _ _ v u Q I rx ry ⟨p, _, vs, rfl, he, e3, by omega, by omega, by rw [e4.len]; exact sz_le hz.2.2, fin_lst rh (e4.rep _) h⟩
      · exact h.elim
    · exact h.elim
  · split at h
    · rename_i hz
      obtain ⟨p, vs, rfl, h1, h2⟩ := hd
      exact op_repT pins s σ H _ _ v u Q I rx ry ⟨p, _, vs, rfl, he, by rw [g.K]; exact h1, fun e => hz.2.2.2 (h2.isNil.mp e), hz.1, hz.2.1, by rw [h2.len]; exact hz.2.2.1, fin_tup rh (h2.rep _) h⟩
    · exact h.elim
  · split at h
    · rename_i hz
      exact op_fdivW pins s σ H x y v u Q I rx ry ⟨_, _, hd, he, div_ok hz.1 hz.2, h ι H _ .refl rh rfl⟩
    · exact h.elim
  · split at h
    · rename_i hz
      exact op_mod pins s σ H x y v u Q I rx ry ⟨_, _, hd, he, hz, h ι H _ .refl rh rfl⟩
    · exact h.elim
  · split at h
    · rename_i hz
      exact op_pow pins s σ H x y v u Q I rx ry ⟨_, _, hd, he, hz, h ι H _ .refl rh rfl⟩
    · exact h.elim
  · exact h.elim
/-- .. in place, of what does not change -/
def rIop (G : Wd) (o : Operator) : R2 := fun x y H Q => ∃ ι ah d e E, RH G ι ah H ∧ DV G ι H d x ∧ DV G ι H e y ∧ iopP o d e = true ∧ Pst G (rD G) ι H (prim2 o d e ah) Q E
theorem snd_iop (g : Gd G S N k X) (o : Operator) : OpR X (inplaceOp o) (rIop G o) := by
  intro pins s σ H x y v u Q I rx ry ⟨ι, ah, d, e, E, rh, hd, he, ht, h⟩
  unfold iopP at ht
  split at ht
  · exact iop_add pins s σ H x y v u Q I rx ry ⟨_, _, hd, he, h ι H _ .refl rh rfl⟩
  · simp only [prim2] at h
    split at h
    · rename_i hz
      exact iop_add_str pins s σ H x y v u Q I rx ry ⟨_, _, hd, he, sz_le hz, h ι H _ .refl rh rfl⟩
    · exact h.elim
  · exact iop_sub pins s σ H x y v u Q I rx ry ⟨_, _, hd, he, h ι H _ .refl rh rfl⟩
  · simp only [prim2] at h
    split at h
    · rename_i hz
      exact iop_mulB pins s σ H x y v u Q I rx ry ⟨_, _, hd, he, mul_ok hz.1 hz.2, h ι H _ .refl rh rfl⟩
    · exact h.elim
  · cases ht
end
end RV
set_option Elab.async false
set_option linter.all false
set_option maxRecDepth 100000
set_option autoImplicit false
set_option maxHeartbeats 1000000
/-! Part 3: built-in functions, places, cuts, stores. -/
namespace RV
open PySem PySem.Spec PyProof.Rows L2

theorem str_ok {i : Int} (h : i.natAbs < SBIG) : i.natAbs.log2 < 1920 := Nat.lt_trans (log_of (a := 1900) (by decide) h) (by decide)
theorem maxI_mem : ∀ (ns : List Int), ns ≠ [] → maxI ns ∈ ns ∧ ∀ y ∈ ns, y ≤ maxI ns
  | [], h => absurd rfl h
  | [a], _ => ⟨by simp [maxI], fun y hy => by simp [maxI] at *; omega⟩
  | a :: b :: r, _ => by
    obtain ⟨h1, h2⟩ := maxI_mem (b :: r) (by simp)
    rw [maxI]
    split
    · exact ⟨List.mem_cons_of_mem _ h1, fun y hy => by
        rcases List.mem_cons.mp hy with rfl | hy
        · omega
        · exact h2 y hy⟩
    · exact ⟨List.mem_cons_self, fun y hy => by
        rcases List.mem_cons.mp hy with rfl | hy
        · omega
        · have := h2 y hy
          omega⟩
theorem minI_mem : ∀ (ns : List Int), ns ≠ [] → minI ns ∈ ns ∧ ∀ y ∈ ns, minI ns ≤ y
  | [], h => absurd rfl h
  | [a], _ => ⟨by simp [minI], fun y hy => by simp [minI] at *; omega⟩
  | a :: b :: r, _ => by
    obtain ⟨h1, h2⟩ := minI_mem (b :: r) (by simp)
    rw [minI]
    split
    · exact ⟨List.mem_cons_of_mem _ h1, fun y hy => by
        rcases List.mem_cons.mp hy with rfl | hy
        · omega
        · exact h2 y hy⟩
    · exact ⟨List.mem_cons_self, fun y hy => by
        rcases List.mem_cons.mp hy with rfl | hy
        · omega
        · have := h2 y hy
          omega⟩
def bltF : Blt → Value
  | .len => .builtin "len"
  | .abs => .builtin "abs"
  | .int => .type "int"
  | .str => .type "str"
  | .gcd => .builtin "math.gcd"
  | .repr => .builtin "repr"
  | .tup => .type "tuple"
  | .list => .type "list"
  | .ord => .builtin "ord"
  | .min2 => .builtin "min"
  | .max2 => .builtin "max"
  | .comb => .builtin "math.comb"
def rBlt (G : Wd) (b : Blt) : List V → Hp → VK → Prop := fun xs H Q => ∃ ι ah ds E, RH G ι ah H ∧ DVs G ι H ds xs ∧ Pst G (rD G) ι H (blt b ds ah) Q E
theorem DVs.one {G : Wd} {ι : List Addr} {H : Hp} {d : D} {vs : List V} (h : DVs G ι H [d] vs) : ∃ v, vs = [v] ∧ DV G ι H d v := by
  obtain ⟨v, r, rfl, h1, h2⟩ := h
  exact ⟨v, by rw [show r = [] from h2], h1⟩
theorem DVs.two {G : Wd} {ι : List Addr} {H : Hp} {d e : D} {vs : List V} (h : DVs G ι H [d, e] vs) : ∃ v u, vs = [v, u] ∧ DV G ι H d v ∧ DV G ι H e u := by
  obtain ⟨v, r, rfl, h1, h2⟩ := h
  obtain ⟨u, rfl, h3⟩ := DVs.one h2
  exact ⟨v, u, rfl, h1, h3⟩
section
variable {G : Wd} {S : Scope} {N : List Str} {k : Nat} {X : Cx}
theorem call_repr (g : Gd G S N k X) {pins : List (Addr × Obj)} {s : Shared} {σ : L2.St} {H : Hp} {x : V} {u : Value} {Q : VK} (I : Inv X pins σ H s) (rx : RelV x u) {ι : List Addr} {ah : AH} {d : D} {z : Str} (rh : RH G ι ah H) (hd : DV G ι H d x)
    (e : repO d ah = some z) (q : Q (.str z) H) : wpAny (model X.prog X.w) X.A (call (.builtin "repr") [u]) (EP X pins σ Q) X.xe s := by
  unfold repO at e
  split at e
  · rename_i p hp
    split at e
    · rename_i hz
      cases e
      rw [Bool.and_eq_true, decide_eq_true_eq] at hz
      obtain ⟨hs, hz⟩ := hz
      obtain ⟨a1, a2, a3, a4⟩ := toP_ok rh DEEP d p x hp hd
      rw [← g.K] at a1
      have hl : p.shown.length ≤ sizeLine := sz_le (by omega)
      have hu := g.room.units
      have hD : DEEP = 60 := rfl
      obtain ⟨as, r1⟩ := Dp.reads I p x u a1 rx
      cases x with
      | non =>
        cases a1
        cases (show u = Value.none from rx)
        exact PySem.P.repr_of_none ⟨V.str _, H, I.tok _, ⟨_, rfl⟩, q⟩
      | bl b =>
        cases a1
        cases (show u = Value.bool b from rx)
        exact PySem.P.repr_of_bool ⟨V.str _, H, I.tok _, ⟨_, rfl⟩, q⟩
      | int i =>
        cases a1
        obtain ⟨t, rfl⟩ := (show ∃ t, u = Value.int i t from rx)
        exact PySem.P.repr_of_int (of_decide_eq_true hs) ⟨V.str _, H, I.tok _, ⟨_, rfl⟩, q⟩
      | str y =>
        cases a1
        obtain ⟨t, rfl⟩ := (show ∃ t, u = Value.str y t from rx)
        exact PySem.P.repr_of_str ⟨V.str _, H, I.tok _, ⟨_, rfl⟩, q⟩ (hsz := hl)
      | ref a =>
        cases (show u = Value.ref a from rx)
        exact PySem.repr_of_reads' r1 hs (fun w => by rw [a4] at w; cases w) g.gd (by omega) (fun _ _ w => w) (fun h' w tk hk => ⟨V.str _, H, I.kept hk, ⟨_, rfl⟩, q⟩) hl
      | _ => cases a1
    · cases e
  · cases e
theorem snd_blt (g : Gd G S N k X) (b : Blt) : CallR X (bltF b) (rBlt G b) := by
  intro pins s σ H xs us Q I r ⟨ι, ah, ds, E, rh, hv, h⟩
  unfold blt at h
  split at h
  · obtain ⟨v, rfl, h1⟩ := hv.one
    cases (show v = V.str _ from h1)
    split at h
    · rename_i hz
      exact call_len_str pins s σ H _ us Q I r ⟨_, rfl, sz_le hz, fin_at rh h rfl⟩
    · exact h.elim
  · obtain ⟨v, rfl, h1⟩ := hv.one
    split at h
    · rename_i es he
      obtain ⟨a, vs, rfl, h2, h3⟩ := seq_of rh h1 he
      rw [← g.K] at h2
      have hl := h3.len
      refine call_len_seq pins s σ H _ us Q I r ⟨a, vs, rfl, h2, ?_⟩
      rw [hl]
      exact fin_at rh h rfl
    · exact h.elim
  · obtain ⟨v, rfl, h1⟩ := hv.one
    cases (show v = V.int _ from h1)
    exact call_abs pins s σ H _ us Q I r ⟨_, rfl, fin_at rh h rfl⟩
  · obtain ⟨v, rfl, h1⟩ := hv.one
    cases (show v = V.int _ from h1)
    exact call_int1 pins s σ H _ us Q I r (.inl ⟨_, rfl, fin_at rh h rfl⟩)
  · obtain ⟨v, rfl, h1⟩ := hv.one
    cases (show v = V.int _ from h1)
    split at h
    · rename_i hz
      exact call_str_int pins s σ H _ us Q I r ⟨_, rfl, str_ok hz, fin_at rh h rfl⟩
    · exact h.elim
  · obtain ⟨v, u, rfl, h1, h2⟩ := hv.two
    cases (show v = V.int _ from h1)
    cases (show u = V.int _ from h2)
    exact cr_gcd pins s σ H _ us Q I r ⟨_, _, rfl, fin_at rh h rfl⟩
  · obtain ⟨v, rfl, h1⟩ := hv.one
    split at h
    · rename_i z hz
      obtain ⟨u, rfl, ru⟩ := vals1 r
      exact call_repr g I ru rh h1 hz (fin_at rh h rfl)
    · exact h.elim
  · obtain ⟨v, rfl, h1⟩ := hv.one
    split at h
    · rename_i es he
      obtain ⟨a, vs, rfl, h2, h3⟩ := seq_of rh h1 he
      rw [← g.K] at h2
      rcases h2 with h2 | h2
      · exact call_tuple_of pins s σ H _ us Q I r ⟨a, vs, rfl, .inl ⟨h2, fin_tup rh h3 h⟩⟩
      · exact call_tuple_of pins s σ H _ us Q I r ⟨a, vs, rfl, .inr ⟨h2, fin_at rh h ⟨a, vs, rfl, by rw [← g.K]; exact h2, h3⟩⟩⟩
    · exact h.elim
  · obtain ⟨v, rfl, h1⟩ := hv.one
    split at h
    · rename_i es he
      obtain ⟨a, vs, rfl, h2, h3⟩ := seq_of rh h1 he
      rw [← g.K] at h2
      exact call_list_of pins s σ H _ us Q I r ⟨a, vs, rfl, h2, fin_lst rh h3 h⟩
    · exact h.elim
  · exact h.elim
/-! ### isinstance -/
def tyN : Ty → String
  | .int => "int" | .bool => "bool" | .str => "str" | .tup => "tuple" | .lst => "list"
def rIs (G : Wd) (t : Ty) : List V → Hp → VK → Prop := fun xs H Q => ∃ ι ah d v c, xs = [v, .ty (tyN t)] ∧ RH G ι ah H ∧ DV G ι H d v ∧ isTy d t ah = some c ∧ Q (.bl c) H
theorem snd_isi (g : Gd G S N k X) (t : Ty) : CallR X (.builtin "isinstance") (rIs G t) := by
  intro pins s σ H xs us Q I r ⟨ι, ah, d, v, c, e, rh, hd, h, q⟩
  have go : ∀ (T : String), TyX X.K H v (.type T) → kitB T (tyN t) = some c → wpAny (model X.prog X.w) X.A (call (.builtin "isinstance") us) (EP X pins σ Q) X.xe s := fun T ty kt =>
    call_isi pins s σ H xs us Q I r ⟨v, _, _, _, c, e, .ty _, ty, kit_ty kt, q⟩
  cases d with
  | non => cases (show v = V.non from hd); cases h; exact go "NoneType" (.base .non) (by cases t <;> decide +kernel)
  | bl b => cases (show v = V.bl b from hd); cases h; exact go "bool" (.base (.bl b)) (by cases t <;> decide +kernel)
  | int i => cases (show v = V.int i from hd); cases h; exact go "int" (.base (.int i)) (by cases t <;> decide +kernel)
  | str x => cases (show v = V.str x from hd); cases h; exact go "str" (.base (.str x)) (by cases t <;> decide +kernel)
  | tup ds =>
    obtain ⟨a, vs, rfl, h1, h2⟩ := hd
    cases h
    rw [← g.K] at h1
    refine go "tuple" ?_ (by cases t <;> decide +kernel)
    rcases h1 with (h1 | ⟨o, h1⟩) | ⟨o, its, n, h1, h3, _⟩
    · exact .base (.tup h1)
    · exact .fTuple h1
    · exact .kTuple h1 h3
  | rol ds =>
    obtain ⟨a, vs, rfl, h1, h2⟩ := hd
    cases h
    rw [← g.K] at h1
    refine go "list" ?_ (by cases t <;> decide +kernel)
    rcases h1 with ⟨o, h1⟩ | h1
    · exact .base (.frz h1)
    · obtain ⟨_, o, h3, h4⟩ := h1 H
      exact .kList h3 h4
  | ref n =>
    obtain ⟨a, h1, rfl⟩ := hd
    simp only [isTy] at h
    split at h
    · rename_i ds hc
      cases h
      obtain ⟨vs, h2, h3⟩ := rh.cell n a _ h1 hc
      exact go "list" (.base (.lst h2)) (by cases t <;> decide +kernel)
    · cases h
  | fn j => cases h
/-! ### a list that has just been made -/
def bltTF : BltT → Value
  | .tup => .type "tuple"
  | .all => .builtin "all"
  | .any => .builtin "any"
  | .sum => .builtin "sum"
  | .max => .builtin "max"
  | .min => .builtin "min"
  | .len => .builtin "len"
def rBltT (G : Wd) (b : BltT) : List V → Hp → VK → Prop := fun xs H Q => ∃ ι ah ds a vs E, xs = [.ref a] ∧ H a = some (.lst vs) ∧ RH G ι ah H ∧ DVs G ι H ds vs ∧ Pst G (rD G) ι H (bltT b ds ah) Q E
theorem snd_bltT (g : Gd G S N k X) (b : BltT) : CallR X (bltTF b) (rBltT G b) := by
  intro pins s σ H xs us Q I r ⟨ι, ah, ds, a, vs, E, exs, ha, rh, hv, h⟩
  subst exs
  have sq : SqL X.K H a vs := SqL.of ha
  cases b with
  | tup => exact call_tuple_of pins s σ H _ us Q I r ⟨a, vs, rfl, .inl ⟨sq, fin_tup rh hv h⟩⟩
  | len =>
    refine call_len_seq pins s σ H _ us Q I r ⟨a, vs, rfl, .inl sq, ?_⟩
    rw [hv.len]
    exact fin_at rh h rfl
  | all =>
    simp only [bltT] at h
    split at h
    · rename_i bs hb
      have e := DVs.bls hv hb
      subst e
      exact cr_all g.calm pins s σ H _ us Q I r ⟨a, bs, rfl, sq, fin_at rh h rfl⟩
    · exact h.elim
  | any =>
    simp only [bltT] at h
    split at h
    · rename_i bs hb
      have e := DVs.bls hv hb
      subst e
      exact cr_any g.calm pins s σ H _ us Q I r ⟨a, bs, rfl, sq, fin_at rh h rfl⟩
    · exact h.elim
  | sum =>
    simp only [bltT] at h
    split at h
    · rename_i bs hb
      have e := DVs.ints hv hb
      subst e
      exact cr_sum g.calm pins s σ H _ us Q I r ⟨a, bs, rfl, sq, fin_at rh h rfl⟩
    · exact h.elim
  | max =>
    simp only [bltT] at h
    split at h
    · rename_i bs hb
      have e := DVs.ints hv hb
      subst e
      split at h
      · exact h.elim
      · rename_i hne
        obtain ⟨m1, m2⟩ := maxI_mem bs hne
        refine cr_max g.calm pins s σ H _ us Q I r ⟨a, bs, rfl, sq, List.length_pos_iff.mpr hne, fun m hm1 hm2 => ?_⟩
        have e1 := hm2 _ m1
        have e2 := m2 _ hm1
        obtain rfl : m = maxI bs := by omega
        exact fin_at rh h rfl
    · exact h.elim
  | min =>
    simp only [bltT] at h
    split at h
    · rename_i bs hb
      have e := DVs.ints hv hb
      subst e
      split at h
      · exact h.elim
      · rename_i hne
        obtain ⟨m1, m2⟩ := minI_mem bs hne
        refine cr_min g.calm pins s σ H _ us Q I r ⟨a, bs, rfl, sq, List.length_pos_iff.mpr hne, fun m hm1 hm2 => ?_⟩
        have e1 := hm2 _ m1
        have e2 := m2 _ hm1
        obtain rfl : m = minI bs := by omega
        exact fin_at rh h rfl
    · exact h.elim
/-! ### places, cuts -/
def rSub (G : Wd) : R2 := fun x y H Q => ∃ ι ah d e E, RH G ι ah H ∧ DV G ι H d x ∧ DV G ι H e y ∧ Pst G (rD G) ι H (subP d e ah) Q E
theorem atI_dvs {ι : List Addr} {H : Hp} {ds : List D} {vs : List V} {i : Int} {d : D} (h : DVs G ι H ds vs) (e : L2.atI ds i = some d) : ∃ v, L2.atI vs i = some v ∧ DV G ι H d v := by
  unfold L2.atI at e ⊢
  rw [h.len]
  cases q : L2.ixN ds.length i with
  | none => rw [q] at e; cases e
  | some j =>
    rw [q] at e
    exact h.get e
theorem snd_sub (g : Gd G S N k X) : IxR X (rSub G) := by
  intro vl sl pins s σ H x y v u Q I rx ry hh hsub
  obtain ⟨ι, ah, d, e, E, rh, hd, he, h⟩ := hh
  unfold subP at h
  split at h
  · cases (show x = V.str _ from hd)
    cases (show y = V.int _ from he)
    split at h
    · rename_i hz
      split at h
      · rename_i c hc
        exact ix_str vl sl pins s σ H _ _ v u Q I rx ry ⟨_, _, c, rfl, rfl, sz_le hz, hc, fin_at rh h rfl⟩ hsub
      · exact h.elim
    · exact h.elim
  · cases (show y = V.int _ from he)
    split at h
    · rename_i ds hs
      split at h
      · rename_i z hz
        obtain ⟨a, vs, rfl, h2, h3⟩ := seq_of rh hd hs
        obtain ⟨w, h4, h5⟩ := atI_dvs h3 hz
        rw [← g.K] at h2
        rcases h2 with h2 | h2
        · exact ix_list vl sl pins s σ H _ _ v u Q I rx ry ⟨a, vs, _, w, rfl, rfl, h2, h4, fin_at rh h h5⟩ hsub
        · exact ix_tup vl sl pins s σ H _ _ v u Q I rx ry ⟨a, vs, _, w, rfl, rfl, h2, h4, fin_at rh h h5⟩ hsub
      · exact h.elim
    · exact h.elim
  · exact h.elim
def rSl (G : Wd) : V → Option Int → Option Int → Hp → VK → Prop := fun x lo hi H Q => ∃ ι ah d E, RH G ι ah H ∧ DV G ι H d x ∧ Pst G (rD G) ι H (sliceP d lo hi ah) Q E
theorem cut_dvs {ι : List Addr} {H : Hp} {ds : List D} {vs : List V} {lo hi : Option Int} (h : DVs G ι H ds vs) : DVs G ι H (cutL ds lo hi) (cutV vs lo hi) := by
  unfold cutL cutV
  rw [h.len]
  exact (h.drop _).take _
theorem snd_sl (g : Gd G S N k X) : SlR X (rSl G) := by
  intro pins s σ H x v vl vu lo hi sl Q I rx hs pl pu ⟨ι, ah, d, E, rh, hd, h⟩
  unfold sliceP at h
  split at h
  · cases (show x = V.str _ from hd)
    split at h
    · rename_i hz
      exact sl_str pins s σ H _ v vl vu lo hi sl Q I rx hs pl pu ⟨_, rfl, sz_le hz, fin_at rh h rfl⟩
    · exact h.elim
  · obtain ⟨a, vs, rfl, h1, h2⟩ := hd
    rw [← g.K] at h1
    refine sl_tupA pins s σ H _ v vl vu lo hi sl Q I rx hs pl pu ⟨a, vs, rfl, h1, fun w => ?_, fun _ => fin_tup rh (cut_dvs h2) h⟩
    rw [h2.len] at w
    have ec : ∀ ds : List D, HT.sIx ds.length 0 lo = 0 ∧ HT.sIx ds.length ds.length hi = ds.length → cutL ds lo hi = ds := fun ds w => by
      unfold cutL
      rw [w.1, w.2]
      simp
    rw [ec _ w] at h
    exact fin_at rh h ⟨a, vs, rfl, by rw [← g.K]; exact h1, h2⟩
  · obtain ⟨a, vs, rfl, h1, h2⟩ := hd
    rw [← g.K] at h1
    exact sl_list pins s σ H _ v vl vu lo hi sl Q I rx hs pl pu ⟨a, vs, rfl, h1.sq, fin_lst rh (cut_dvs h2) h⟩
  · obtain ⟨a, h1, rfl⟩ := hd
    split at h
    · rename_i ds hc
      obtain ⟨vs, h2, h3⟩ := rh.cell _ a _ h1 hc
      exact sl_list pins s σ H _ v vl vu lo hi sl Q I rx hs pl pu ⟨a, vs, rfl, SqL.of h2, fin_lst rh (cut_dvs h3) h⟩
    · exact h.elim
  · exact h.elim
/-! ### stores -/
def rSet (G : Wd) : V → V → V → Hp → (Hp → Prop) → Prop := fun o i v H Q => ∃ ι ah a b c E, RH G ι ah H ∧ DV G ι H a o ∧ DV G ι H b i ∧ DV G ι H c v ∧ Pst G (rX Unit) ι H (setP a b c ah) (fun _ H' => Q H') E
theorem snd_set (g : Gd G S N k X) : PSet X (rSet G) := by
  intro pins s σ H o i v ov iv u Q I ro ri rv ⟨ι, ah, a, b, c, E, rh, ha, hb, hc, h⟩
  unfold setP at h
  split at h
  · cases (show i = V.int _ from hb)
    obtain ⟨p, h1, rfl⟩ := ha
    split at h
    · rename_i ds hd
      split at h
      · rename_i j hj
        obtain ⟨vs, h2, h3⟩ := rh.cell _ p _ h1 hd
        exact set_list pins s σ H _ _ v ov iv u Q I ro ri rv ⟨p, vs, _, j, rfl, rfl, h2, by rw [h3.len]; exact hj,
          h ι _ () (ext_set (vs := vs) rh (List.mem_of_getElem? h1)) (rh.set h1 (DVs.set hc j h3)) rfl⟩
      · exact h.elim
    · exact h.elim
  · exact h.elim
/-! ### methods -/
def rMt (G : Wd) (m : Mth) : V → List V → Hp → VK → Prop := fun x xs H Q => ∃ ι ah d ds E, RH G ι ah H ∧ DV G ι H d x ∧ DVs G ι H ds xs ∧ Pst G (rD G) ι H (methP m d ds ah) Q E
theorem snd_append (g : Gd G S N k X) : MtR X "list.append" (rMt G .append) := by
  intro pins s σ H x xs v us Q I rx r ⟨ι, ah, d, ds, E, rh, hd, hv, h⟩
  unfold methP at h
  split at h
  · obtain ⟨p, h1, rfl⟩ := hd
    obtain ⟨w, rfl, h4⟩ := hv.one
    split at h
    · rename_i es hc
      split at h
      · rename_i hz
        obtain ⟨vs, h2, h3⟩ := rh.cell _ p _ h1 hc
        refine mt_append pins s σ H _ _ v us Q I rx r ⟨p, vs, w, rfl, rfl, h2, by rw [h3.len, ← SZ_eq]; exact hz, ?_⟩
        exact h ι _ _ (ext_set (vs := vs) rh (List.mem_of_getElem? h1)) (rh.set h1 (h3.app (DVs.cons h4 DVs.nil))) rfl
      · exact h.elim
    · exact h.elim
  · exact h.elim
end
end RV
set_option Elab.async false
set_option linter.all false
set_option maxRecDepth 100000
set_option autoImplicit false
set_option maxHeartbeats 1000000
/-! Part 4: the core text against the program's tree; readings; calls of the text's defs. -/
namespace RV
open PySem PySem.Spec PyProof.Rows L2

/-- what the module's names stand for -/
structure Tab where
  fns : List Str
  free : List Str
  bfn : List (Str × String)
  cons : List (Str × D)

/-! ### the check -/
def visB (S : Scope) (x : Str) : Bool := match S.names.lookup x with
  | some .local => true
  | some .cell => true
  | some .free => true
  | _ => false
def locB (B : Scope) (x : Str) : Bool := match B.names.lookup x with
  | some .local => true
  | some .cell => true
  | _ => false
def glB (S : Scope) (x : Str) : Bool := decide (S.names.lookup x = some .globalImplicit)
def nmB (x : Str) : Bool := !(x == ("__debug__" : Str)) && (!(x == ("__classdict__" : Str)) && decide (x ≠ "__name__"))
def litB : D → Const → Bool
  | .non, .none => true
  | .bl a, .bool b => decide (a = b)
  | .int a, .int b => decide (a = b)
  | .str a, .str b => decide (a = b)
  | _, _ => false
def plainT : Expr → Bool
  | .UnaryOp .Not _ _ => false
  | .BoolOp .. => false
  | .IfExp .. => false
  | .Compare .. => false
  | _ => true
def unstar : Expr → Bool
  | .Starred .. => false
  | _ => true
def unslice : Expr → Bool
  | .Slice .. => false
  | _ => true
def uncall : Expr → Bool
  | .Call .. => false
  | _ => true
def unset : Expr → Bool
  | .Set .. => false
  | _ => true
def uncomp : Expr → Bool
  | .ListComp .. => false
  | .SetComp .. => false
  | .DictComp .. => false
  | _ => true
def bltN : Blt → Str
  | .len => "len" | .abs => "abs" | .int => "int" | .str => "str" | .gcd => "gcd" | .repr => "repr" | .tup => "tuple" | .list => "list" | .ord => "ord" | .min2 => "min" | .max2 => "max" | .comb => "comb"
def bltImp : Blt → Bool
  | .gcd => true
  | .comb => true
  | _ => false
def bltId : Blt → String
  | .gcd => "math.gcd"
  | _ => "math.comb"
def bltTN : BltT → Str
  | .tup => "tuple" | .all => "all" | .any => "any" | .sum => "sum" | .max => "max" | .min => "min" | .len => "len"
def tyS : Ty → Str
  | .int => "int" | .bool => "bool" | .str => "str" | .tup => "tuple" | .lst => "list"
def bltB (T : Tab) (S : Scope) (b : Blt) (x : Str) : Bool := decide (x = bltN b) && (glB S x && (nmB x && (if bltImp b then decide ((x, bltId b) ∈ T.bfn) else decide (x ∈ T.free))))
def bltTB (T : Tab) (S : Scope) (b : BltT) (x : Str) : Bool := decide (x = bltTN b) && (glB S x && (nmB x && decide (x ∈ T.free)))
mutual
def Tg.slots : Tg → List Nat
  | .name i => [i]
  | .tup ts => ts.slots
  | .sub _ _ => []
def Tgs.slots : Tgs → List Nat
  | .nil => []
  | .cons t ts => t.slots ++ ts.slots
end
mutual
def okE (T : Tab) (N : List Str) : Scope → Scope → CE → Expr → Bool
  | S, _, .var i, e => (match e with
    | .Name x _ => decide (N[i]? = some x) && (visB S x && nmB x)
    | _ => false)
  | _, _, .lit d, e => (match e with
    | .Constant c _ _ => litB d c
    | _ => false)
  | S, _, .glob j d, e => (match e with
    | .Name x _ => decide (T.cons[j]? = some (x, d)) && (glB S x && nmB x)
    | _ => false)
  | S, _, .fnv j, e => (match e with
    | .Name x _ => decide (T.fns[j]? = some x) && (glB S x && nmB x)
    | _ => false)
  | S, B, .tup es, e => (match e with
    | .Tuple xs _ _ => okEs T N S B es xs
    | _ => false)
  | S, B, .op2 o a b, e => (match e with
    | .BinOp x p y _ => decide (o = p) && (okE T N S B a x && okE T N S B b y)
    | _ => false)
  | S, B, .neg a, e => (match e with
    | .UnaryOp .USub x _ => okE T N S B a x
    | _ => false)
  | S, B, .inv a, e => (match e with
    | .UnaryOp .Invert x _ => okE T N S B a x
    | _ => false)
  | S, B, .cmp o a b, e => (match e with
    | .Compare x [p] [y] _ => decide (o = p) && (!behindInMarks p y && (okE T N S B a x && okE T N S B b y))
    | _ => false)
  | S, B, .cmp2 o o' a b c, e => (match e with
    | .Compare x [p, p'] [y, z] _ => decide (o = p) && (decide (o' = p') && (!lastMarks [p, p'] [y, z] && (okE T N S B a x && (okE T N S B b y && okE T N S B c z))))
    | _ => false)
  | S, B, .and a b, e => (match e with
    | .BoolOp .And (x :: y :: []) _ => okE T N S B a x && okE T N S B b y
    | .BoolOp .And (x :: y :: z :: r) p => okE T N S B a x && okE T N S B b (.BoolOp .And (y :: z :: r) p)
    | _ => false)
  | S, B, .or a b, e => (match e with
    | .BoolOp .Or (x :: y :: []) _ => okE T N S B a x && okE T N S B b y
    | .BoolOp .Or (x :: y :: z :: r) p => okE T N S B a x && okE T N S B b (.BoolOp .Or (y :: z :: r) p)
    | _ => false)
  | S, B, .not a, e => (match e with
    | .UnaryOp .Not x _ => okE T N S B a x
    | _ => false)
  | S, B, .ite t a b, e => (match e with
    | .IfExp z x y _ => okE T N S B t z && (okE T N S B a x && okE T N S B b y)
    | _ => false)
  | S, B, .call f es, e => (match e with
    | .Call (.Name x _) xs [] _ => decide (T.fns[f]? = some x) && (glB S x && (nmB x && okEs T N S B es xs))
    | _ => false)
  | S, B, .callv v es, e => false
  | S, B, .isi a t, e => (match e with
    | .Call (.Name x _) [y, .Name z _] [] _ => decide (x = "isinstance") && (decide (z = tyS t) && (glB S x && (glB S z && (decide (x ∈ T.free) && (decide (z ∈ T.free) && (unstar y && okE T N S B a y))))))
    | _ => false)
  | S, B, .blt b es, e => (match e with
    | .Call (.Name x _) (y :: ys) [] _ => bltB T S b x && okEs T N S B es (y :: ys)
    | _ => false)
  | S, B, .bltT b t, e => (match e with
    | .Call (.Name x _) [y] [] _ => bltTB T S b x && (unstar y && okT T N S B t y)
    | _ => false)
  | S, B, .join s t, e => (match e with
    | .Call (.Attribute x m q) [y] [] p => decide (m = "join") && (uncall x && (unstar y && (decide ((q.endLine == p.line) = true) && (okE T N S B s x && okT T N S B t y))))
    | _ => false)
  | S, B, .sub a i, e => (match e with
    | .Subscript x y _ => unslice y && (okE T N S B a x && okE T N S B i y)
    | _ => false)
  | S, B, .slice a lo hi, e => (match e with
    | .Subscript x (.Slice l u none _) _ => okE T N S B a x && (okO T N S B lo l && okO T N S B hi u)
    | _ => false)
  | S, B, .alloc t, e => okT T N S B t e
  | S, B, .meth m o es, e => (match e with
    | .Call (.Attribute x n q) [y] [] p => decide (m = .append) && (decide (n = "append") && (uncall x && (decide ((q.endLine == p.line) = true) && (okE T N S B o x && okEs T N S B es [y]))))
    | _ => false)
def okEs (T : Tab) (N : List Str) : Scope → Scope → CEs → List Expr → Bool
  | _, _, .nil, xs => xs.isEmpty
  | S, B, .cons e es, xs => (match xs with
    | x :: r => unstar x && (okE T N S B e x && okEs T N S B es r)
    | _ => false)
def okO (T : Tab) (N : List Str) : Scope → Scope → CO → Option Expr → Bool
  | _, _, .none, x => x.isNone
  | S, B, .some e, x => (match x with
    | some y => okE T N S B e y
    | none => false)
def okT (T : Tab) (N : List Str) : Scope → Scope → CT → Expr → Bool
  | S, B, .lst es, e => (match e with
    | .List xs _ => okEs T N S B es xs
    | _ => false)
  | S, B, .lc own tg it ifs el, e => (match e with
    | .ListComp x [⟨t, i, fs, 0⟩] sc _ => (unset i && (okI T N S B it i && blkC N S sc (own.map fun j => (N.getD j "", j)))) &&
        (okG T N (relS sc S) sc tg t && (decide (∀ j ∈ tg.slots, j ∈ own) && (okE T N (relS sc S) sc el x && okFs T N (relS sc S) sc ifs fs)))
    | _ => false)
def okFs (T : Tab) (N : List Str) : Scope → Scope → CO → List Expr → Bool
  | _, _, .none, x => x.isEmpty
  | S, B, .some e, x => (match x with
    | [y] => okE T N S B e y
    | _ => false)
def okI (T : Tab) (N : List Str) : Scope → Scope → CI → Expr → Bool
  | S, B, .val a, e => okE T N S B a e
  | S, B, .rng1 a, e => (match e with
    | .Call (.Name x _) [y] [] _ => decide (x = "range") && (glB S x && (decide (x ∈ T.free) && (unstar y && okE T N S B a y)))
    | _ => false)
  | S, B, .rng2 a b, e => (match e with
    | .Call (.Name x _) [y, z] [] _ => decide (x = "range") && (glB S x && (decide (x ∈ T.free) && (unstar y && (unstar z && (okE T N S B a y && okE T N S B b z)))))
    | _ => false)
  | S, B, .tmp t, e => okT T N S B t e
def okG (T : Tab) (N : List Str) : Scope → Scope → Tg → Expr → Bool
  | S, B, .name i, e => (match e with
    | .Name x _ => decide (N[i]? = some x) && locB B x
    | _ => false)
  | S, B, .tup ts, e => (match e with
    | .Tuple xs _ _ => okGs T N S B ts xs
    | _ => false)
  | S, B, .sub o i, e => (match e with
    | .Subscript x y _ => unslice y && (okE T N S B o x && okE T N S B i y)
    | _ => false)
def okGs (T : Tab) (N : List Str) : Scope → Scope → Tgs → List Expr → Bool
  | _, _, .nil, xs => xs.isEmpty
  | S, B, .cons t ts, xs => (match xs with
    | x :: r => unstar x && (okG T N S B t x && okGs T N S B ts r)
    | _ => false)
end

/-! ### readings -/
section
variable (G : Wd) (call : Call) (W : WX)
def xk (W : WX) (σ : L2.St) : XK := fun c d H => W c d σ H
def rdE (c : CE) : TE := fun σ H Q => ∃ ι env ah, RH G ι ah H ∧ RS G ι H env σ ∧ Pst G (rD G) ι H (evE call c env ah) Q (xk W σ)
def rdEs (c : CEs) : TA := fun σ H Q => ∃ ι env ah, RH G ι ah H ∧ RS G ι H env σ ∧ Pst G (rDs G) ι H (evEs call c env ah) Q (xk W σ)
def rdB (c : CE) : TT := fun σ H Q => ∃ ι env ah, RH G ι ah H ∧ RS G ι H env σ ∧ Pst G (rX Bool) ι H (evB call c env ah) Q (xk W σ)
def rdFs (c : CO) : TT := fun σ H Q => ∃ ι env ah, RH G ι ah H ∧ RS G ι H env σ ∧ Pst G (rX Bool) ι H (evF call c env ah) Q (xk W σ)
def rdO (c : CO) : TO := fun σ H Q => ∃ ι env ah, RH G ι ah H ∧ RS G ι H env σ ∧ Pst G (rX (Option Int)) ι H (evO call c env ah) Q (xk W σ)
def rdT (c : CT) : TE := fun σ H Q => ∃ ι env ah, RH G ι ah H ∧ RS G ι H env σ ∧ Pst G (rL G) ι H (evT call c env ah) Q (xk W σ)
def rdI (c : CI) : TI := fun σ H Q => ∃ ι env ah, RH G ι ah H ∧ RS G ι H env σ ∧ Pst G (RV.rI G) ι H (evI call c env ah) Q (xk W σ)
/-- slots outside own stay -/
def SameSl (own : List Nat) (σ σ' : L2.St) : Prop := σ'.length = σ.length ∧ ∀ j : Nat, j ∉ own → σ'[j]? = σ[j]?
def rEnS (own : List Nat) (σ : L2.St) : Rl En L2.St := ⟨fun _ _ ι' H' env σ' => RS G ι' H' env σ' ∧ SameSl own σ σ', fun _ _ _ _ _ _ _ _ _ _ h => h⟩
def xall (W : WX) : XK := fun c d H => ∀ σ, W c d σ H
def rdG (c : Tg) : TG := fun v σ H Q => ∃ ι env ah x, RH G ι ah H ∧ RS G ι H env σ ∧ DV G ι H x v ∧ Pst G (rEnS G c.slots σ) ι H (evG call c x env ah) Q (xall W)
def rdGs (c : Tgs) : TGs := fun vs σ H Q => ∃ ι env ah xs, RH G ι ah H ∧ RS G ι H env σ ∧ DVs G ι H xs vs ∧ Pst G (rEnS G c.slots σ) ι H (evGs call c xs env ah) Q (xall W)
end
section
variable {X : Cx}
theorem _root_.L2.PE.le {e : Expr} {t t' : TE} (h : PE X e t) (k : ∀ σ H Q, t' σ H Q → t σ H Q) : PE X e t' := ⟨fun pins s σ H Q I q => h.run pins s σ H Q I (k _ _ _ q)⟩
theorem _root_.L2.PT.le {e : Expr} {t t' : TT} (h : PT X e t) (k : ∀ σ H Q, t' σ H Q → t σ H Q) : PT X e t' := ⟨fun pins s σ H Q I q => h.run pins s σ H Q I (k _ _ _ q)⟩
theorem _root_.L2.PW.le {e : Expr} {t t' : TT} (h : PW X e t) (k : ∀ σ H Q, t' σ H Q → t σ H Q) : PW X e t' := ⟨fun w pins s σ H Q I q => h.run w pins s σ H Q I (k _ _ _ q)⟩
theorem _root_.L2.PTs.le {e : List Expr} {t t' : TT} (h : PTs X e t) (k : ∀ σ H Q, t' σ H Q → t σ H Q) : PTs X e t' := ⟨fun pins s σ H Q I q => h.run pins s σ H Q I (k _ _ _ q)⟩
theorem _root_.L2.PA.le {e : List Expr} {t t' : TA} (h : PA X e t) (k : ∀ σ H Q, t' σ H Q → t σ H Q) : PA X e t' := ⟨fun p pins s σ H Q I q => h.run p pins s σ H Q I (k _ _ _ q)⟩
theorem _root_.L2.PO.le {e : Option Expr} {t t' : TO} (h : PO X e t) (k : ∀ σ H Q, t' σ H Q → t σ H Q) : PO X e t' := ⟨fun pins s σ H Q I q => h.run pins s σ H Q I (k _ _ _ q)⟩
theorem _root_.L2.PI.le {tg e : Expr} {t t' : TI} (h : PI X tg e t) (k : ∀ σ H Q, t' σ H Q → t σ H Q) : PI X tg e t' := ⟨fun pins s σ H Q I q => h.run pins s σ H Q I (k _ _ _ q)⟩
theorem _root_.L2.PG.le {e : Expr} {t t' : TG} (h : PG X e t) (k : ∀ v σ H Q, t' v σ H Q → t v σ H Q) : PG X e t' := ⟨fun pins s σ H v u Q I r q => h.run pins s σ H v u Q I r (k _ _ _ _ q)⟩
theorem _root_.L2.PGs.le {e : List Expr} {t t' : TGs} (h : PGs X e t) (k : ∀ v σ H Q, t' v σ H Q → t v σ H Q) : PGs X e t' := ⟨fun pins s σ H v u Q I r q => h.run pins s σ H v u Q I r (k _ _ _ _ q)⟩
theorem _root_.L2.PS.le {e : Stmt} {t t' : TS} (h : PS X e t) (k : ∀ D σ H, t' D σ H → t D σ H) : PS X e t' := ⟨fun pins s σ H D I q => h.run pins s σ H D I (k _ _ _ q)⟩
theorem _root_.L2.PSs.le {e : List Stmt} {t t' : TS} (h : PSs X e t) (k : ∀ D σ H, t' D σ H → t D σ H) : PSs X e t' := ⟨fun pins s σ H D I q => h.run pins s σ H D I (k _ _ _ q)⟩
end

/-! ### side conditions of the layer's rules -/
theorem star_cons {e : Expr} {es : List Expr} {env : PySem.Env} (h : unstar e = true) : starEach (e :: es) env = (false, eval e env) :: starEach es env := by
  cases e <;> first | rfl | cases h
theorem star_none {env : PySem.Env} {pos : Pos} : ∀ {es : List Expr}, (∀ e ∈ es, unstar e = true) → (backTo pos (starEach es env)).any (·.1) = false
  | [], _ => rfl
  | e :: es, h => by
    rw [star_cons (h e List.mem_cons_self)]
    show (false || (backTo pos (starEach es env)).any (·.1)) = false
    rw [star_none fun x hx => h x (List.mem_cons_of_mem _ hx)]
    rfl
theorem tree_plain {e : Expr} {env : PySem.Env} (h : plainT e = true) (whole : Sem Value) : isTrue e env whole = (do let v ← whole; standAt e.pos; holding [v] (PySem.truthy v)) := by
  cases e with
  | UnaryOp op _ _ => cases op <;> first | rfl | cases h
  | _ => first | rfl | cases h
theorem plain_ix {e : Expr} (h : unslice e = true) : L2.PlainIx e := by
  intro o i
  cases e <;> first | rfl | cases h
theorem base_plain {o : Expr} {n : Str} {env : PySem.Env} (h : uncall o = true) : attributeBase o n env (eval o env) = eval o env := by
  cases o <;> first | rfl | cases h
theorem set_plain {e : Expr} {env : PySem.Env} (h : unset e = true) (x : Value) : foldedSetIterable e env x = pure x := by
  cases e <;> first | rfl | cases h
theorem nm_ok {x : Str} (h : nmB x = true) : (x == ("__debug__" : Str)) = false ∧ (x == ("__classdict__" : Str)) = false ∧ x ≠ "__name__" := by
  unfold nmB at h
  simp only [Bool.and_eq_true, Bool.not_eq_true', decide_eq_true_eq] at h
  exact h
theorem vis_ok {S : Scope} {x : Str} (h : visB S x = true) : Vis S x := by
  unfold visB at h
  split at h
  · exact .inl (by assumption)
  · exact .inr (.inl (by assumption))
  · exact .inr (.inr (by assumption))
  · cases h
theorem loc_ok {S : Scope} {x : Str} (h : locB S x = true) : S.names.lookup x = some .local ∨ S.names.lookup x = some .cell := by
  unfold locB at h
  split at h
  · exact .inl (by assumption)
  · exact .inr (by assumption)
  · cases h

/-! ### the text's defs -/
/-- what a def promises, by the evaluator -/
def spF (G : Wd) (P : List Fn) (k : Nat) (j : Nat) (n : Nat) : Sp := fun vs H Q E => vs.length = n ∧ ∃ ι ah ds, RH G ι ah H ∧ DVs G ι H ds vs ∧ Pst G (rD G) ι H (evC P k j ds ah) Q E
structure FnG (P : Program) (w : World) (K : PySem.W.Frag) (mg : Str → Option Value) (base : Heap) (k : Nat) (f : Addr) (fd : FuncData) (ps : List Str) (sp : Sp) : Prop where
  len : ∀ vs H Q E, sp vs H Q E → vs.length = ps.length
  run : ∀ (A : Around) (outer : List PySem.Env) (s : Shared) (H : Hp) (args : Args) (us : List Value) (vs : List V) (Q : VK) (E : XK), Room k A → A.guards = some [] → Env0 P w K mg base A outer s H → BindsTo s fd args (ps.zip us) → Vals vs us → sp vs H Q E →
    codeAny (model P w) A (.call (.ref f) args) (CR (CX P w) outer P w H s Q E) s
theorem FnG.mono {P : Program} {w : World} {K : PySem.W.Frag} {mg : Str → Option Value} {base : Heap} {j k : Nat} {f : Addr} {fd : FuncData} {ps : List Str} {sp : Sp} (F : FnG P w K mg base j f fd ps sp) (h : j ≤ k) : FnG P w K mg base k f fd ps sp :=
  ⟨F.len, fun A outer s H args us vs Q E hr => F.run A outer s H args us vs Q E (hr.mono h)⟩
/-- what the head gives of the text, with every def's promise at the level k -/
structure Fa (G : Wd) (T : Tab) (P : List Fn) (k : Nat) : Prop where
  fn : ∀ (j : Nat) (x : Str), T.fns[j]? = some x → G.mg x = some (.ref (G.fa j)) ∧ PySem.W.keepIn G.K (.ref (G.fa j)) = true ∧ ∃ (fd : FuncData) (ps : List Str) (fn : Fn), P[j]? = some fn ∧ ps.length = fn.np ∧ Binds G.K fd ps [] ∧ FnG G.P G.w G.K G.mg G.base k (G.fa j) fd ps (spF G P k j fn.np)
  free : ∀ x, x ∈ T.free → G.mg x = none
  con : ∀ (j : Nat) (x : Str) (d : D), T.cons[j]? = some (x, d) → ∃ u v, G.mg x = some u ∧ RelV v u ∧ ∀ ι H, DV G ι H d v
  bfn : ∀ x id, (x, id) ∈ T.bfn → G.mg x = some (.builtin id)

structure Gd2 (G : Wd) (S B : Scope) (N : List Str) (k : Nat) (X : Cx) : Prop where
  gd : Gd G S N k X
  st : ∀ x, (B.names.lookup x = some .local ∨ B.names.lookup x = some .cell) → Loc X.env.scope x ∧ (X.fn x = true ∨ X.env.scope.names.lookup x = some .local)
section
variable {G : Wd} {S B : Scope} {N : List Str} {k : Nat} {X : Cx} {W : WX}
theorem gl_ok (g : Gd G S N k X) {x : Str} (h : glB S x = true) : Gl X x := by
  unfold glB at h
  unfold Gl Env.kindOf
  rw [g.sc]
  exact of_decide_eq_true h
theorem run_G (g : Gd G S N k X) (tk : Takes X W) {pins : List (Addr × Obj)} {σ : L2.St} {H : Hp} {s : Shared} {f : Addr} {fd : FuncData} {ps : List Str} {sp : Sp} {Q : VK} {us : List Value} {vs : List V}
    (F : FnG G.P G.w G.K G.mg G.base k f fd ps sp) (hb : Binds G.K fd ps []) (I : Inv X pins σ H s) (r : Vals vs us) (h : sp vs H Q (xk W σ)) : wpAny (model X.prog X.w) X.A (call (.ref f) us) (EP X pins σ Q) X.xe s := by
  have F' : FnG X.prog X.w X.K X.mg X.base k f fd ps sp := by
    rw [g.prog, g.w, g.K, g.mg, g.base]
    exact F
  have b' : Binds X.K fd ps [] := by
    rw [g.K]
    exact hb
  have hl : us.length = ps.length := by
    rw [← r.length]
    exact F.len _ _ _ _ h
  have bt := b' s us I.kIn (by rw [List.append_nil]; exact hl)
  rw [List.append_nil] at bt
  refine wpAny_call (codeAny_mono (F'.run X.A X.stack s H ⟨us, []⟩ us vs Q (xk W σ) g.room g.gd I.env0 bt r h) fun r s' hq => ?_)
  cases r with
  | error e => exact tk e s' (XE.of_call I (fun _ _ _ z => z) hq)
  | ok fl =>
    cases fl with
    | ret u => exact I.after hq
    | next => exact False.elim hq
    | brk => exact False.elim hq
    | cont => exact False.elim hq
/-- f(e, ..), f() -/
theorem pe_callG (g : Gd G S N k X) (tk : Takes X W) {x : Str} {p pos : Pos} {e : Expr} {es : List Expr} {t : TA} {f : Addr} {fd : FuncData} {ps : List Str} {sp : Sp} (F : FnG G.P G.w G.K G.mg G.base k f fd ps sp) (hb : Binds G.K fd ps []) (hg : Gl X x)
    (hm : X.mg x = some (.ref f)) (hk : PySem.W.keepIn X.K (.ref f) = true) (ha : PA X (e :: es) t) (h1 : unstar e = true) (hun : ∀ e ∈ es, unstar e = true) (hdb : (x == ("__debug__" : Str)) = false) :
    PE X (.Call (.Name x p) (e :: es) [] pos) (fun σ H Q => t σ H fun vs H1 => sp vs H1 Q (xk W σ)) := by
  refine ⟨fun pins s σ H Q I h => ?_⟩
  refine wpAny_Call_Name_kw (ld_glob I hg hm ?_ hdb)
  refine PySem.W.callWith_K (h₀ := X.base) I.ok.mod.kin hk (thn (ha.run pos pins s σ H _ I h) fun us s1 ⟨vs, H1, I1, r, q⟩ => ⟨I1.kIn, ?_⟩) (star_cons h1) (star_none hun)
  exact run_G g tk F hb I1 r q
theorem pe_callG0 (g : Gd G S N k X) (tk : Takes X W) {x : Str} {p pos : Pos} {f : Addr} {fd : FuncData} {ps : List Str} {sp : Sp} (F : FnG G.P G.w G.K G.mg G.base k f fd ps sp) (hb : Binds G.K fd ps []) (hg : Gl X x)
    (hm : X.mg x = some (.ref f)) (hk : PySem.W.keepIn X.K (.ref f) = true) (hdb : (x == ("__debug__" : Str)) = false) : PE X (.Call (.Name x p) [] [] pos) (fun σ H Q => sp [] H Q (xk W σ)) := by
  refine ⟨fun pins s σ H Q I h => ?_⟩
  refine wpAny_Call_Name_kw (ld_glob I hg hm ?_ hdb)
  exact PySem.W.callWith_K0 I.kIn hk (run_G (us := []) g tk F hb I .nil h)
end
end RV
set_option Elab.async false
set_option linter.all false
set_option maxRecDepth 100000
set_option autoImplicit false
set_option maxHeartbeats 2000000
/-! Part 5: a core expression that is the program's reads as the evaluator says. -/
namespace RV
open PySem PySem.Spec PyProof.Rows L2

theorem b2 {a b : Bool} (h : (a && b) = true) : a = true ∧ b = true := Bool.and_eq_true_iff.mp h
theorem evB_and (call : Call) (a b : CE) (env : En) (h : AH) : evB call (.and a b) env h = (evB call a env h).bind fun k h1 => if k then evB call b env h1 else .ok false h1 := by
  simp only [evB, evE]
  cases evE call a env h with
  | ok x h1 =>
    simp only [R.bind_ok]
    cases q : truthy x h1 with
    | none => rfl
    | some k => cases k <;> simp [ofO, q]
  | exc c v h1 => rfl
  | bad => rfl
theorem evB_or (call : Call) (a b : CE) (env : En) (h : AH) : evB call (.or a b) env h = (evB call a env h).bind fun k h1 => if k then .ok true h1 else evB call b env h1 := by
  simp only [evB, evE]
  cases evE call a env h with
  | ok x h1 =>
    simp only [R.bind_ok]
    cases q : truthy x h1 with
    | none => rfl
    | some k => cases k <;> simp [ofO, q]
  | exc c v h1 => rfl
  | bad => rfl
theorem evB_not (call : Call) (a : CE) (env : En) (h : AH) : evB call (.not a) env h = (evB call a env h).bind fun k h1 => .ok (!k) h1 := by
  simp only [evB, evE]
  cases evE call a env h with
  | ok x h1 =>
    simp only [R.bind_ok]
    cases q : truthy x h1 with
    | none => rfl
    | some k => rfl
  | exc c v h1 => rfl
  | bad => rfl
theorem evE_not (call : Call) (a : CE) (env : En) (h : AH) : evE call (.not a) env h = (evB call a env h).bind fun k h1 => .ok (.bl (!k)) h1 := by
  simp only [evB, evE, R.bind_assoc]
theorem evE_ite (call : Call) (t a b : CE) (env : En) (h : AH) : evE call (.ite t a b) env h = (evB call t env h).bind fun k h1 => if k then evE call a env h1 else evE call b env h1 := by
  simp only [evB, evE, R.bind_assoc]
theorem evB_ite (call : Call) (t a b : CE) (env : En) (h : AH) : evB call (.ite t a b) env h = (evB call t env h).bind fun k h1 => if k then evB call a env h1 else evB call b env h1 := by
  unfold evB
  rw [evE_ite]
  unfold evB
  rw [R.bind_assoc]
  congr 1
  funext k h1
  cases k <;> rfl
section
variable {α β : Type} {G : Wd} {rel : Rl α β} {ι : List Addr} {H : Hp} {Q : β → Hp → Prop} {E : XK}
theorem Pst.ofO {γ : Type} {o : Option γ} {h : AH} {f : γ → AH → R α} (p : Pst G rel ι H ((RV.ofO o h).bind f) Q E) : ∃ a, o = some a ∧ Pst G rel ι H (f a h) Q E := by
  cases o with
  | none => exact p.elim
  | some a => exact ⟨a, rfl, p⟩
theorem Pst.ofO' {o : Option α} {h : AH} (p : Pst G rel ι H (RV.ofO o h) Q E) : ∃ a, o = some a ∧ Pst G rel ι H (.ok a h) Q E := by
  cases o with
  | none => exact p.elim
  | some a => exact ⟨a, rfl, p⟩
end
theorem evE_cmp_bl {call : Call} {o : CmpOp} {a b : CE} {env : En} {h h' : AH} {d : D} (e : evE call (.cmp o a b) env h = .ok d h') : ∃ k, d = .bl k := by
  simp only [evE] at e
  cases h1 : evE call a env h with
  | ok x g1 =>
    rw [h1, R.bind_ok] at e
    cases h2 : evE call b env g1 with
    | ok y g2 =>
      rw [h2, R.bind_ok] at e
      cases q : cmpP o x y g2 with
      | none => rw [q] at e; cases e
      | some k => rw [q] at e; cases e; exact ⟨k, rfl⟩
    | exc c v g => rw [h2] at e; cases e
    | bad => rw [h2] at e; cases e
  | exc c v g => rw [h1] at e; cases e
  | bad => rw [h1] at e; cases e
theorem evE_cmp2_bl {call : Call} {o o' : CmpOp} {a b c : CE} {env : En} {h h' : AH} {d : D} (e : evE call (.cmp2 o o' a b c) env h = .ok d h') : ∃ k, d = .bl k := by
  simp only [evE] at e
  cases h1 : evE call a env h with
  | ok x g1 =>
    rw [h1, R.bind_ok] at e
    cases h2 : evE call b env g1 with
    | ok y g2 =>
      rw [h2, R.bind_ok] at e
      cases q : cmpP o x y g2 with
      | none => rw [q] at e; cases e
      | some k =>
        rw [q] at e
        simp only [ofO, R.bind_ok] at e
        cases k with
        | false => simp at e; exact ⟨_, e.1.symm⟩
        | true =>
          simp only [if_true] at e
          cases h3 : evE call c env g2 with
          | ok z g3 =>
            rw [h3, R.bind_ok] at e
            cases q' : cmpP o' y z g3 with
            | none => rw [q'] at e; cases e
            | some k => rw [q'] at e; cases e; exact ⟨k, rfl⟩
          | exc c v g => rw [h3] at e; cases e
          | bad => rw [h3] at e; cases e
    | exc c v g => rw [h2] at e; cases e
    | bad => rw [h2] at e; cases e
  | exc c v g => rw [h1] at e; cases e
  | bad => rw [h1] at e; cases e
section
variable {G : Wd} {T : Tab} {P : List Fn} {S B : Scope} {N : List Str} {k : Nat} {X : Cx} {W : WX} {call : Call}
theorem toBl {c : CE} (hb : ∀ env h d h', evE call c env h = .ok d h' → ∃ k, d = .bl k) {σ : L2.St} {H : Hp} {Q : Bool → Hp → Prop} (h : rdB G call W c σ H Q) : rdE G call W c σ H (fun x H' => ∃ k, x = .bl k ∧ Q k H') := by
  obtain ⟨ι, env, ah, rh, rs, hp⟩ := h
  refine ⟨ι, env, ah, rh, rs, hp.step' fun d h1 ι1 H1 v e e1 rh1 v1 hp1 => ?_⟩
  obtain ⟨c, rfl⟩ := hb _ _ _ _ e
  exact ⟨c, v1, hp1 ι1 H1 c .refl rh1 rfl⟩
theorem ptOf (g : Gd G S N k X) {c : CE} {e : Expr} (hE : PE X e (rdE G call W c)) (hp : plainT e = true) : PT X e (rdB G call W c) := by
  refine (pt_truth hE (tree_plain hp)).le fun σ H Q ⟨ι, env, ah, rh, rs, h⟩ => ⟨ι, env, ah, rh, rs, h.step (rel := rD G) fun d h1 ι1 H1 v e1 rh1 v1 h2 => ?_⟩
  obtain ⟨b, hb, h3⟩ := h2.ofO'
  refine ⟨b, ?_, h3 ι1 H1 b .refl rh1 rfl⟩
  rw [g.K]
  exact tru_of rh1 v1 hb
theorem okEs_star : ∀ {es : CEs} {xs : List Expr}, okEs T N S B es xs = true → ∀ x ∈ xs, unstar x = true
  | .nil, xs, h, x, hx => by
    cases xs with
    | nil => cases hx
    | cons _ _ => cases h
  | .cons e es, xs, h, x, hx => by
    cases xs with
    | nil => cases hx
    | cons y r =>
      obtain ⟨h1, h2⟩ := b2 (show (unstar y && (okE T N S B e y && okEs T N S B es r)) = true from h)
      rcases List.mem_cons.mp hx with rfl | hx
      · exact h1
      · exact okEs_star (b2 h2).2 x hx
theorem boot_isi : bootBuiltins "isinstance" = some (.builtin "isinstance") := by decide +kernel
theorem boot_ty (t : Ty) : bootBuiltins (tyS t) = some (.type (tyN t)) := by cases t <;> decide +kernel
/-- f(e, ..), f a built-in function -/
theorem pe_blt (g : Gd G S N k X) (F : Fa G T P k) {b : Blt} {x : Str} {p pos : Pos} {e : Expr} {es : List Expr} {t : TA} (hB : bltB T S b x = true) (ha : PA X (e :: es) t) (h1 : unstar e = true) (h2 : ∀ e ∈ es, unstar e = true) :
    PE X (.Call (.Name x p) (e :: es) [] pos) (tCB (rBlt G b) t) := by
  unfold bltB at hB
  obtain ⟨c1, c⟩ := b2 hB
  obtain ⟨c2, c⟩ := b2 c
  obtain ⟨c3, c4⟩ := b2 c
  have hx := of_decide_eq_true c1
  have hg := gl_ok g c2
  obtain ⟨n1, n2, n3⟩ := nm_ok c3
  have hs := star_cons (es := es) (env := X.env) h1
  have hp := star_none (env := X.env) (pos := pos) h2
  have hm : bltImp b = false → X.mg x = none := fun e => by
    rw [e] at c4
    rw [g.mg]
    exact F.free x (of_decide_eq_true c4)
  have hm2 : bltImp b = true → X.mg x = some (.builtin (bltId b)) := fun e => by
    rw [e] at c4
    rw [g.mg]
    exact F.bfn x _ (of_decide_eq_true c4)
  cases b with
  | len => exact pe_callB (snd_blt g .len) hg (hm rfl) (by rw [hx]; decide +kernel) ha n3 n1 hs hp
  | abs => exact pe_callB (snd_blt g .abs) hg (hm rfl) (by rw [hx]; decide +kernel) ha n3 n1 hs hp
  | int => exact pe_callTy (snd_blt g .int) hg (hm rfl) (by rw [hx]; decide +kernel) ha n3 n1 hs hp
  | str => exact pe_callTy (snd_blt g .str) hg (hm rfl) (by rw [hx]; decide +kernel) ha n3 n1 hs hp
  | gcd => exact pe_callBfun (snd_blt g .gcd) hg (hm2 rfl) ha n1 hs hp
  | repr => exact pe_callB (snd_blt g .repr) hg (hm rfl) (by rw [hx]; decide +kernel) ha n3 n1 hs hp
  | tup => exact pe_callTy (snd_blt g .tup) hg (hm rfl) (by rw [hx]; decide +kernel) ha n3 n1 hs hp
  | list => exact pe_callTy (snd_blt g .list) hg (hm rfl) (by rw [hx]; decide +kernel) ha n3 n1 hs hp
  | ord => exact pe_callB (snd_blt g .ord) hg (hm rfl) (by rw [hx]; decide +kernel) ha n3 n1 hs hp
  | min2 => exact pe_callB (snd_blt g .min2) hg (hm rfl) (by rw [hx]; decide +kernel) ha n3 n1 hs hp
  | max2 => exact pe_callB (snd_blt g .max2) hg (hm rfl) (by rw [hx]; decide +kernel) ha n3 n1 hs hp
  | comb => exact pe_callBfun (snd_blt g .comb) hg (hm2 rfl) ha n1 hs hp
theorem pe_bltT (g : Gd G S N k X) (F : Fa G T P k) {b : BltT} {x : Str} {p pos : Pos} {e : Expr} {t : TA} (hB : bltTB T S b x = true) (ha : PA X [e] t) (h1 : unstar e = true) :
    PE X (.Call (.Name x p) [e] [] pos) (tCB (rBltT G b) t) := by
  unfold bltTB at hB
  obtain ⟨c1, c⟩ := b2 hB
  obtain ⟨c2, c⟩ := b2 c
  obtain ⟨c3, c4⟩ := b2 c
  have hx := of_decide_eq_true c1
  have hg := gl_ok g c2
  obtain ⟨n1, n2, n3⟩ := nm_ok c3
  have hs := star_cons (es := []) (env := X.env) h1
  have hm : X.mg x = none := by
    rw [g.mg]
    exact F.free x (of_decide_eq_true c4)
  cases b with
  | tup => exact pe_callTy (snd_bltT g .tup) hg hm (by rw [hx]; decide +kernel) ha n3 n1 hs rfl
  | all => exact pe_callB (snd_bltT g .all) hg hm (by rw [hx]; decide +kernel) ha n3 n1 hs rfl
  | any => exact pe_callB (snd_bltT g .any) hg hm (by rw [hx]; decide +kernel) ha n3 n1 hs rfl
  | sum => exact pe_callB (snd_bltT g .sum) hg hm (by rw [hx]; decide +kernel) ha n3 n1 hs rfl
  | max => exact pe_callB (snd_bltT g .max) hg hm (by rw [hx]; decide +kernel) ha n3 n1 hs rfl
  | min => exact pe_callB (snd_bltT g .min) hg hm (by rw [hx]; decide +kernel) ha n3 n1 hs rfl
  | len => exact pe_callB (snd_bltT g .len) hg hm (by rw [hx]; decide +kernel) ha n3 n1 hs rfl
/-- a if t else b, as a test -/
theorem pt_if {c a b : Expr} {tc ta tb : TT} {pos : Pos} (hc : PT X c tc) (ha : PT X a ta) (hb : PT X b tb) : PT X (.IfExp c a b pos) (fun σ H Q => tc σ H fun k H1 => if k = true then ta σ H1 Q else tb σ H1 Q) := by
  refine ⟨fun pins s σ H Q I h => ?_⟩
  show wpAny _ _ (do if ← isTrue c X.env (eval c X.env) then isTrue a X.env (eval a X.env) else isTrue b X.env (eval b X.env)) _ _ s
  refine wpAny_bind (thn (hc.run pins s σ H _ I h) fun k s1 ⟨H1, I1, q1⟩ => ?_)
  cases k with
  | true => exact ha.run pins s1 σ H1 Q I1 q1
  | false => exact hb.run pins s1 σ H1 Q I1 q1

/-! ### what is walked -/
theorem yields_range (ι : List Addr) (H : Hp) (lo : Int) (n : Nat) : Yields G ι H (Itr lo n) (rngL lo n, []) := by
  intro ι1 h1 H1 e rh _
  refine ⟨fun i d hd => ?_, fun i hi => ?_⟩
  · have hl := (List.getElem?_eq_some_iff.mp hd).1
    simp only [rngL, List.length_map, List.length_range] at hl
    refine ⟨hl, fun x H' y => ?_⟩
    obtain ⟨e1, e2⟩ := y
    subst e1 e2
    refine ⟨.refl, rh, ?_⟩
    simp only [rngL, List.getElem?_map, List.getElem?_range hl, Option.map_some] at hd
    cases hd
    rfl
  · simp only [rngL, List.length_map, List.length_range] at hi
    exact hi
theorem yields_list {K : PySem.W.Frag} {ι : List Addr} {H : Hp} {a : Addr} {ds : List D} {deps : List (Nat × Cell)}
    (hk : ∀ ι1 h1 H1, Ext ι H ι1 H1 → RH G ι1 h1 H1 → depsOk deps h1 = true → ∃ vs, SqL K H1 a vs ∧ DVs G ι1 H1 ds vs) : Yields G ι H (Itl K a) (ds, deps) := by
  intro ι1 h1 H1 e rh hd
  obtain ⟨vs, q1, q2⟩ := hk ι1 h1 H1 e rh hd
  refine ⟨fun i d hi => ?_, fun i hi => ⟨vs, q1, by rw [q2.len]; exact hi⟩⟩
  obtain ⟨v, h2, h3⟩ := q2.get hi
  refine ⟨⟨vs, v, q1, h2⟩, fun x H' y => ?_⟩
  obtain ⟨e1, e2⟩ := y
  subst e1
  have := e2 vs q1
  rw [h2] at this
  cases this
  exact ⟨.refl, rh, h3⟩
theorem yields_tup {K : PySem.W.Frag} {ι : List Addr} {H : Hp} {a : Addr} {ds : List D} {deps : List (Nat × Cell)}
    (hk : ∀ ι1 h1 H1, Ext ι H ι1 H1 → RH G ι1 h1 H1 → depsOk deps h1 = true → ∃ vs, SqT K H1 a vs ∧ DVs G ι1 H1 ds vs) : Yields G ι H (Itt K a) (ds, deps) := by
  intro ι1 h1 H1 e rh hd
  obtain ⟨vs, q1, q2⟩ := hk ι1 h1 H1 e rh hd
  refine ⟨fun i d hi => ?_, fun i hi => ⟨vs, q1, by rw [q2.len]; exact hi⟩⟩
  obtain ⟨v, h2, h3⟩ := q2.get hi
  refine ⟨⟨vs, v, q1, h2⟩, fun x H' y => ?_⟩
  obtain ⟨e1, e2⟩ := y
  subst e1
  have := e2 vs q1
  rw [h2] at this
  cases this
  exact ⟨.refl, rh, h3⟩
/-- a list or a tuple, walked -/
def iSeq (K : PySem.W.Frag) (tl : TE) : TI := fun σ H R => tl σ H fun x H1 => ∃ a, x = .ref a ∧ (((∃ xs, SqL K H1 a xs) ∧ R (Itl K a) H1) ∨ ((∃ xs, SqT K H1 a xs) ∧ R (Itt K a) H1))
theorem pi_seq {tg l : Expr} {tl : TE} (hl : PE X l tl) : PI X tg l (iSeq X.K tl) := by
  refine ⟨fun pins s σ H R I h => ?_⟩
  refine thn (hl.run pins s σ H _ I h) fun v s1 ⟨x, H1, I1, r1, a, e, q⟩ => ?_
  subst e
  cases r1
  have fr : ∀ b ∈ [s1.heap.objs.size], FpOk X pins H1 b := fun b hb => by
    rw [List.mem_singleton.mp hb]
    exact I1.fpOk (Nat.le_refl _) (I1.hok.fresh (Nat.le_refl _))
  rcases q with ⟨⟨xs, hq⟩, q⟩ | ⟨⟨xs, hq⟩, q⟩
  · obtain ⟨its, rv, p, hz⟩ := I1.list hq
    refine wpAny_pyIter_list p.isList ?_
    exact ⟨_, [s1.heap.objs.size], _, _, H1, rfl, I1.kept (t' := s1.toks) fun b o e => Heap.get?_push_of_some _ e, turn_list a _, ⟨_, Heap.get?_push_size _ rfl, rfl, rfl⟩, fr, q⟩
  · obtain ⟨its, rv, p, hz⟩ := I1.tuple hq
    refine wpAny_pyIter_tuple (show s1.heap.IsTuple a its.toArray from p) ?_
    exact ⟨_, [s1.heap.objs.size], _, _, H1, rfl, I1.kept (t' := s1.toks) fun b o e => Heap.get?_push_of_some _ e, turn_tuple a _, ⟨_, Heap.get?_push_size _ rfl, rfl, rfl⟩, fr, q⟩
end
end RV
set_option Elab.async false
set_option linter.all false
set_option maxRecDepth 100000
set_option autoImplicit false
set_option maxHeartbeats 4000000
/-! Part 6: expressions, lists that are made, walks, targets. -/
namespace RV
open PySem PySem.Spec PyProof.Rows L2

section
variable {G : Wd} {T : Tab} {P : List Fn} {N : List Str} {k : Nat}
def okBlk (N : List Str) (own : List Nat) : List (Str × Nat) := own.map fun j => (N.getD j "", j)
theorem okBlk_snd (N : List Str) (own : List Nat) : (okBlk N own).map (·.2) = own := by
  unfold okBlk
  rw [List.map_map]
  induction own with
  | nil => rfl
  | cons a r ih => rw [List.map_cons, ih]; rfl
theorem wipe_set {σ : L2.St} {j : Nat} : ∀ {vs : List Nat}, j ∉ vs → (wipe σ vs)[j]? = σ[j]?
  | [], _ => rfl
  | v :: vs, h => by
    simp only [List.mem_cons, not_or] at h
    unfold wipe
    rw [List.getElem?_set_ne (Ne.symm h.1)]
    exact wipe_set h.2
theorem wipe_in {σ : L2.St} {j : Nat} : ∀ {vs : List Nat}, j ∈ vs → j < σ.length → (wipe σ vs)[j]? = some none
  | v :: vs, h, hl => by
    unfold wipe
    by_cases e : v = j
    · subst e
      rw [List.getElem?_set_self (by rw [wipe_length]; exact hl)]
    · rw [List.getElem?_set_ne e]
      rcases List.mem_cons.mp h with z | z
      · exact absurd z.symm e
      · exact wipe_in z hl
theorem wipe_same {own : List Nat} {σ σ' : L2.St} {sl : List Nat} (h : SameSl sl (wipe σ own) σ') (hs : ∀ j ∈ sl, j ∈ own) : wipe σ' own = wipe σ own := by
  have hl : σ'.length = σ.length := by rw [h.1, wipe_length]
  refine List.ext_getElem? fun j => ?_
  by_cases hj : j ∈ own
  · by_cases hlt : j < σ.length
    · rw [wipe_in hj hlt, wipe_in hj (by rw [hl]; exact hlt)]
    · rw [List.getElem?_eq_none (by rw [wipe_length, hl]; omega), List.getElem?_eq_none (by rw [wipe_length]; omega)]
  · rw [wipe_set hj, h.2 j fun z => hj (hs j z)]
theorem RS.wipe {ι : List Addr} {H : Hp} {env : En} {σ : L2.St} (r : RS G ι H env σ) : ∀ own : List Nat, RS G ι H (wipeE env own) (L2.wipe σ own)
  | [] => r
  | v :: vs => by
    have ih := RS.wipe r vs
    refine ⟨by simp only [wipeE, L2.wipe, List.length_set]; exact ih.len, fun i d e => ?_⟩
    simp only [wipeE] at e
    simp only [L2.wipe]
    by_cases hv : v = i
    · subst hv
      by_cases hl : v < (wipeE env vs).length
      · rw [List.getElem?_set_self hl] at e
        cases e
      · rw [List.getElem?_eq_none (by rw [List.length_set]; omega)] at e
        cases e
    · rw [List.getElem?_set_ne hv] at e
      rw [List.getElem?_set_ne hv]
      exact ih.at_ i d e
theorem takes_no {X : Cx} : Takes X (fun _ _ _ _ => False) := fun u s' ⟨_, _, _, _, _, _, _, _, _, _, _, _, _, _, _, _, z⟩ => z.elim
/-- a comprehension's block -/
theorem gd_blk {S sc : Scope} {X : Cx} {own : List (Str × Nat)} (g : Gd G S N k X) (ok : BlkOk N S sc own) (s : Shared) (H : Hp) (C : Addr) (cl : List (Str × Addr)) (fp : List Addr) :
    Gd2 G (relS sc S) sc N k (X.blk s H sc (compEnvC sc cl C X.env) fp) := by
  have hsc : (compEnvC sc cl C X.env).scope = relS sc S := by
    show relS sc X.env.scope = relS sc S
    rw [g.sc]
  refine ⟨⟨g.prog, g.w, g.K, g.mg, g.base, hsc, g.names, g.nd, g.calm, g.room, g.gd⟩, fun x hx => ?_⟩
  have hk : (relS sc S).names.lookup x = some .local ∨ (relS sc S).names.lookup x = some .cell := by
    rcases hx with hx | hx
    · exact .inl (lookup_relS_keep (by decide) hx)
    · exact .inr (lookup_relS_keep (by decide) hx)
  refine ⟨?_, ?_⟩
  · show Loc (compEnvC sc cl C X.env).scope x
    rw [hsc]
    exact hk
  · rcases hx with hx | hx
    · right
      show (compEnvC sc cl C X.env).scope.names.lookup x = _
      rw [hsc]
      exact lookup_relS_keep (by decide) hx
    · left
      show (sc.names.lookup x == some NameKind.cell) = true
      rw [hx]
      rfl
theorem Pst.calm {α β γ δ : Type} {rel : Rl α β} {rel2 : Rl γ δ} {ι : List Addr} {H : Hp} {r : R α} {f : α → AH → R γ} {Q2 : δ → Hp → Prop} {Q : β → Hp → Prop} {E : XK} {E' : XK} (h : Pst G rel2 ι H (r.calm.bind f) Q2 E)
    (kk : ∀ a h1 ι1 H1 b, Ext ι H ι1 H1 → RH G ι1 h1 H1 → rel.r ι H ι1 H1 a b → Pst G rel2 ι1 H1 (f a h1) Q2 E → Q b H1) : Pst G rel ι H r Q E' := by
  cases r with
  | ok a h' => exact fun ι' H' b e' rh rl => kk a h' ι' H' b e' rh rl (Pst.shift (show Pst G rel2 ι H (f a h') Q2 E from h) e')
  | exc c v h' => exact h.elim
  | bad => exact h
abbrev NoW : WX := fun _ _ _ _ => False
/-- the turns of a comprehension -/
theorem comp_turns {ι1 : List Addr} {H1 : Hp} {J : It} {src : List D × List (Nat × Cell)} {ah : AH} {σ : L2.St} {env : En} {own : List Nat} {tg : Tg} {ifs : CO} {el : CE} {Q : VK} {E : XK} {call : Call} (y : Yields G ι1 H1 J src) (rh : RH G ι1 ah H1) (rs : RS G ι1 H1 env σ)
    (hs : ∀ j ∈ tg.slots, j ∈ own) (hp : Pst G (rL G) ι1 H1 (evComp (fun x h => evG call tg x (wipeE env own) h) (evF call ifs) (evE call el) src.2 src.1 [] ah) Q E) (Dd : Addr) (hD : H1 Dd = none) :
    ∃ Wn : Nat → Nat → Hp → Prop, (∃ m, Wn 0 m (upd H1 Dd (.lst []))) ∧ ∀ i m H, Wn i m H →
      (J.stop i H ∧ Q (.ref Dd) H) ∨ (J.go i H ∧ ∃ Nx : Hp → Prop, (∀ H', Nx H' → ∃ m', m' < m ∧ Wn (i + 1) m' H') ∧ ∀ x H', J.yld i H x H' → rdG G call NoW tg x (wipe σ own) H' fun σ2 H2 => wipe σ2 own = wipe σ own ∧ rdFs G call NoW ifs σ2 H2 fun b H3 =>
        if b = true then rdE G call NoW el σ2 H3 fun y H4 => ∃ acc, H4 Dd = some (.lst acc) ∧ acc.length < sizeLine ∧ Nx (upd H4 Dd (.lst (acc ++ [y]))) else Nx H3) := by
  refine ⟨fun i m H => ∃ ι h acc vs, m = src.1.length - i ∧ i ≤ src.1.length ∧ Ext ι1 H1 ι H ∧ RH G ι h H ∧ H Dd = some (.lst vs) ∧ Dd ∉ ι ∧ DVs G ι H acc vs ∧
    Pst G (rL G) ι1 H1 (evComp (fun x h => evG call tg x (wipeE env own) h) (evF call ifs) (evE call el) src.2 (src.1.drop i) acc h) Q E,
    ⟨_, ι1, ah, [], [], rfl, Nat.zero_le _, ext_new rh hD, rh.new hD, upd_same, rh.notIn hD, DVs.nil, hp⟩, ?_⟩
  rintro i m H ⟨ι, h, acc, vs, rfl, hi, e1, r1, d1, n1, v1, p1⟩
  have y1 := y ι h H e1 r1
  by_cases hlt : i < src.1.length
  · right
    have ed : src.1.drop i = src.1[i] :: src.1.drop (i + 1) := List.drop_eq_getElem_cons hlt
    rw [ed] at p1
    simp only [evComp] at p1
    split at p1
    · rename_i hdep
      obtain ⟨go, yl⟩ := (y1 hdep).1 i src.1[i] (List.getElem?_eq_getElem hlt)
      refine ⟨go, fun H' => ∃ ι h acc vs, Ext ι1 H1 ι H' ∧ RH G ι h H' ∧ H' Dd = some (.lst vs) ∧ Dd ∉ ι ∧ DVs G ι H' acc vs ∧
        Pst G (rL G) ι1 H1 (evComp (fun x h => evG call tg x (wipeE env own) h) (evF call ifs) (evE call el) src.2 (src.1.drop (i + 1)) acc h) Q E, ?_, ?_⟩
      · rintro H' ⟨ι', h', acc', vs', a1, a2, a3, a4, a5, a6⟩
        exact ⟨_, by omega, ι', h', acc', vs', rfl, hlt, a1, a2, a3, a4, a5, a6⟩
      · intro x H' hy
        obtain ⟨e2, r2, dv⟩ := yl x H' hy
        have e12 := e1.trans e2
        -- what stays at Dd
        have kD : ∀ {ιa : List Addr} {Ha : Hp} {ιb : List Addr} {Hb : Hp} {o : HO}, Ha Dd = some o → Dd ∉ ιa → Ext ιa Ha ιb Hb → Hb Dd = some o ∧ Dd ∉ ιb := fun ha hn e => ⟨e.keep _ _ ha hn, fun z => by
          rcases e.new _ z with z | z
          · exact hn z
          · rw [ha] at z
            cases z⟩
        obtain ⟨d2, n2⟩ := kD d1 n1 e2
        -- the wish, from the start, is kept by its own start
        cases p : (evG call tg src.1[i] (wipeE env own) h).calm with
        | bad => rw [p] at p1; exact p1.elim
        | exc c v h' =>
          exfalso
          cases q : evG call tg src.1[i] (wipeE env own) h <;> rw [q] at p <;> cases p
        | ok env1 h1 =>
          have pg : evG call tg src.1[i] (wipeE env own) h = .ok env1 h1 := by
            cases q : evG call tg src.1[i] (wipeE env own) h <;> rw [q] at p <;> cases p
            rfl
          rw [p, R.bind_ok] at p1
          refine ⟨ι, _, h, _, r2, (rs.ext e12).wipe own, dv, ?_⟩
          rw [pg]
          intro ι3 H3 σ3 e3 r3 rl3
          obtain ⟨rs3, ss3⟩ := rl3
          obtain ⟨d3, n3⟩ := kD d2 n2 e3
          refine ⟨wipe_same ss3 hs, ?_⟩
          cases p2 : (evF call ifs env1 h1).calm with
          | bad => rw [p2] at p1; exact p1.elim
          | exc c v h' =>
            exfalso
            cases q : evF call ifs env1 h1 <;> rw [q] at p2 <;> cases p2
          | ok b h2 =>
            have pf : evF call ifs env1 h1 = .ok b h2 := by
              cases q : evF call ifs env1 h1 <;> rw [q] at p2 <;> cases p2
              rfl
            rw [p2, R.bind_ok] at p1
            refine ⟨ι3, env1, h1, r3, rs3, ?_⟩
            rw [pf]
            intro ι4 H4 b' e4 r4 eb
            subst eb
            obtain ⟨d4, n4⟩ := kD d3 n3 e4
            have e14 := (e12.trans e3).trans e4
            have v4 := DVs.ext ((e2.trans e3).trans e4) _ _ v1
            cases b with
            | false =>
              simp only [Bool.false_eq_true, if_false] at p1 ⊢
              exact ⟨ι4, h2, acc, vs, e14, r4, d4, n4, v4, p1⟩
            | true =>
              simp only [if_true] at p1 ⊢
              cases p3 : (evE call el env1 h2).calm with
              | bad => rw [p3] at p1; exact p1.elim
              | exc c v h' =>
                exfalso
                cases q : evE call el env1 h2 <;> rw [q] at p3 <;> cases p3
              | ok yv h3 =>
                have pe : evE call el env1 h2 = .ok yv h3 := by
                  cases q : evE call el env1 h2 <;> rw [q] at p3 <;> cases p3
                  rfl
                rw [p3, R.bind_ok] at p1
                refine ⟨ι4, env1, h2, r4, rs3.ext e4, ?_⟩
                rw [pe]
                intro ι5 H5 w e5 r5 dw
                obtain ⟨d5, n5⟩ := kD d4 n4 e5
                split at p1
                · rename_i hz
                  have v5 := DVs.ext e5 _ _ v4
                  have hD5 : ∀ b ∈ ι5, b ≠ Dd := fun b hb z => n5 (by rw [← z]; exact hb)
                  -- the list at Dd grows: no cell
                  have eu : Ext ι5 H5 ι5 (upd H5 Dd (.lst (vs ++ [w]))) ∨ True := .inr trivial
                  have fx : ∀ b o, H5 b = some o → Fix o → upd H5 Dd (.lst (vs ++ [w])) b = some o := fun b o hb hf => by
                    rw [upd_ne fun z => ?_]
                    · exact hb
                    · rw [z, d5] at hb
                      cases hb
                      exact hf
                  have e15 := e14.trans e5
                  refine ⟨vs, d5, by rw [v5.len, ← SZ_eq]; exact hz, ι5, h3, acc ++ [yv], vs ++ [w], ⟨e15.pre, e15.new, fun b o hb hn => ?_, fun b o hb hf => fx b o (e15.fix b o hb hf) hf⟩,
                    ⟨r5.len, r5.nd, fun n a c c1 c2 => ?_⟩, upd_same, n5, (DVs.mono (List.prefix_refl _) fx _ _ v5).app (DVs.cons (DV.mono (List.prefix_refl _) fx _ _ dw) DVs.nil), p1⟩
                  · rw [upd_ne (ne_of_none hb hD)]
                    exact e15.keep b o hb hn
                  · have q := r5.cell n a c c1 c2
                    cases c with
                    | lst ds =>
                      obtain ⟨us, q1, q2⟩ := q
                      exact ⟨us, by rw [upd_ne (hD5 a (List.mem_of_getElem? c1))]; exact q1, DVs.mono (List.prefix_refl _) fx _ _ q2⟩
                · exact p1.elim
    · exact p1.elim
  · left
    have ei : i = src.1.length := by omega
    subst ei
    rw [List.drop_length] at p1
    simp only [evComp] at p1
    split at p1
    · rename_i hdep
      refine ⟨(y1 hdep).2 _ (Nat.le_refl _), p1 ι H (.ref Dd) e1 r1 ⟨Dd, vs, rfl, d1, n1, hD, v1⟩⟩
    · exact p1.elim
end
end RV
set_option Elab.async false
set_option linter.all false
set_option maxRecDepth 100000
set_option autoImplicit false
set_option maxHeartbeats 4000000
/-! Part 7: every core expression, list, walk and target. -/
namespace RV
open PySem PySem.Spec PyProof.Rows L2
theorem nb {b : Bool} (h : (!b) = true) : b = false := by
  cases b with
  | false => rfl
  | true => cases h
def isBo : Expr → Bool
  | .BoolOp .. => true
  | _ => false
section
variable {G : Wd} {T : Tab} {P : List Fn} {N : List Str} {k : Nat}
def ThE (G : Wd) (call : Call) (W : WX) (X : Cx) (e : Expr) (c : CE) : Prop := PE X e (rdE G call W c) ∧ PT X e (rdB G call W c) ∧ (isBo e = true → PW X e (rdB G call W c))
theorem pl {call : Call} {W : WX} {X : Cx} {S : Scope} {e : Expr} {c : CE} (g : Gd G S N k X) (h : PE X e (rdE G call W c)) (hp : plainT e = true) (hb : isBo e = false) : ThE G call W X e c :=
  ⟨h, ptOf g h hp, fun z => by rw [hb] at z; cases z⟩
theorem litB_pe {X : Cx} {d : D} {c : Const} {j : Nat} {pos : Pos} {W : WX} {call : Call} (h : litB d c = true) : PE X (.Constant c j pos) (rdE G call W (.lit d)) := by
  have fin : ∀ {v : V} {σ : L2.St} {H : Hp} {Q : VK}, (∀ ι H, DV G ι H d v) → rdE G call W (.lit d) σ H Q → Q v H := fun hv ⟨ι, env, ah, rh, rs, hp⟩ => by
    simp only [evE] at hp
    exact hp ι _ _ .refl rh (hv _ _)
  cases d <;> cases c <;> first
    | (cases h; done)
    | exact pe_non.le fun σ H Q q => fin (fun _ _ => rfl) q
    | (have e := of_decide_eq_true h; subst e; first
        | exact pe_int.le fun σ H Q q => fin (fun _ _ => rfl) q
        | exact pe_bl.le fun σ H Q q => fin (fun _ _ => rfl) q
        | exact pe_str.le fun σ H Q q => fin (fun _ _ => rfl) q)
theorem un_inv' {X : Cx} {pins : List (Addr × Obj)} : True := trivial
theorem okGs_len {S B : Scope} : ∀ {c : Tgs} {xs : List Expr}, okGs T N S B c xs = true → xs.length = c.len
  | .nil, xs, h => by
    cases xs with
    | cons _ _ => cases h
    | nil => rfl
  | .cons t ts, xs, h => by
    cases xs with
    | nil => simp [okGs] at h
    | cons y r =>
      simp only [okGs] at h
      rw [List.length_cons, Tgs.len, okGs_len (b2 (b2 h).2).2]
mutual
theorem sE (F : Fa G T P k) : ∀ (c : CE) {S B : Scope} {X : Cx} {W : WX} {e : Expr}, okE T N S B c e = true → Gd2 G S B N k X → Takes X W → ThE G (evC P k) W X e c
  | .var i, S, B, X, W, e, h, g, tk => by
    simp only [okE] at h
    split at h
    · rename_i x pos
      obtain ⟨h1, h2⟩ := b2 h
      obtain ⟨h2, h3⟩ := b2 h2
      obtain ⟨n1, n2, _⟩ := nm_ok h3
      refine pl g.gd ((pe_var (i := i) (by rw [g.gd.names]; exact of_decide_eq_true h1) (by rw [g.gd.sc]; exact vis_ok h2) n1 n2).le fun σ H Q ⟨ι, env, ah, rh, rs, hp⟩ => ?_) rfl rfl
      simp only [evE, var] at hp
      split at hp
      · rename_i d hd
        obtain ⟨v, h4, h5⟩ := rs.at_ i d hd
        exact ⟨v, h4, hp ι H v .refl rh h5⟩
      · exact hp.elim
    · cases h
  | .lit d, S, B, X, W, e, h, g, tk => by
    simp only [okE] at h
    split at h
    · exact pl g.gd (litB_pe h) rfl rfl
    · cases h
  | .glob j d, S, B, X, W, e, h, g, tk => by
    simp only [okE] at h
    split at h
    · rename_i x pos
      obtain ⟨h1, h2⟩ := b2 h
      obtain ⟨h2, h3⟩ := b2 h2
      obtain ⟨n1, n2, _⟩ := nm_ok h3
      obtain ⟨u, v, hm, hr, hv⟩ := F.con j x d (of_decide_eq_true h1)
      refine pl g.gd ((pe_glob (gl_ok g.gd h2) (by rw [g.gd.mg]; exact hm) hr n1).le fun σ H Q ⟨ι, env, ah, rh, rs, hp⟩ => ?_) rfl rfl
      simp only [evE] at hp
      exact hp ι H v .refl rh (hv _ _)
    · cases h
  | .fnv j, S, B, X, W, e, h, g, tk => by
    simp only [okE] at h
    split at h
    · rename_i x pos
      obtain ⟨h1, h2⟩ := b2 h
      obtain ⟨h2, h3⟩ := b2 h2
      obtain ⟨n1, n2, _⟩ := nm_ok h3
      obtain ⟨hm, _⟩ := F.fn j x (of_decide_eq_true h1)
      refine pl g.gd ((pe_glob (v := .ref (G.fa j)) (gl_ok g.gd h2) (by rw [g.gd.mg]; exact hm) rfl n1).le fun σ H Q ⟨ι, env, ah, rh, rs, hp⟩ => ?_) rfl rfl
      simp only [evE] at hp
      exact hp ι H _ .refl rh rfl
    · cases h
  | .tup es, S, B, X, W, e, h, g, tk => by
    simp only [okE] at h
    split at h
    · refine pl g.gd ((pe_tup (sEs F es h g tk)).le fun σ H Q ⟨ι, env, ah, rh, rs, hp⟩ => ?_) rfl rfl
      simp only [evE] at hp
      refine ⟨ι, env, ah, rh, rs, hp.step (rel := rDs G) fun ds h1 ι1 H1 vs e1 rh1 v1 hp1 => ?_⟩
      split at hp1
      · rename_i hz
        exact ⟨by rw [DVs.len v1]; exact sz_le hz, fin_tup rh1 v1 hp1⟩
      · exact hp1.elim
    · cases h
  | .op2 o a b, S, B, X, W, e, h, g, tk => by
    simp only [okE] at h
    split at h
    · obtain ⟨h1, h2⟩ := b2 h
      obtain ⟨h2, h3⟩ := b2 h2
      have eo := of_decide_eq_true h1
      subst eo
      refine pl g.gd ((pe_op (snd_op g.gd o) (sE F a h2 g tk).1 (sE F b h3 g tk).1).le fun σ H Q ⟨ι, env, ah, rh, rs, hp⟩ => ?_) rfl rfl
      simp only [evE] at hp
      exact ⟨ι, env, ah, rh, rs, hp.step (rel := rD G) fun d1 h1 ι1 H1 x e1 rh1 v1 hp1 => ⟨ι1, env, h1, rh1, rs.ext e1, hp1.step (rel := rD G) fun d2 h2 ι2 H2 y e2 rh2 v2 hp2 => ⟨ι2, h2, d1, d2, _, rh2, DV.ext e2 _ _ v1, v2, hp2⟩⟩⟩
    · cases h
  | .neg a, S, B, X, W, e, h, g, tk => by
    simp only [okE] at h
    split at h
    · refine pl g.gd ((pe_un un_neg (sE F a h g tk).1).le fun σ H Q ⟨ι, env, ah, rh, rs, hp⟩ => ?_) rfl rfl
      simp only [evE] at hp
      refine ⟨ι, env, ah, rh, rs, hp.step (rel := rD G) fun d1 h1 ι1 H1 x e1 rh1 v1 hp1 => ?_⟩
      split at hp1
      · exact ⟨_, v1, hp1 ι1 H1 _ .refl rh1 rfl⟩
      · exact hp1.elim
    · cases h
  | .inv a, S, B, X, W, e, h, g, tk => by
    simp only [okE] at h
    split at h
    · refine pl g.gd ((pe_un un_inv (sE F a h g tk).1).le fun σ H Q ⟨ι, env, ah, rh, rs, hp⟩ => ?_) rfl rfl
      simp only [evE] at hp
      refine ⟨ι, env, ah, rh, rs, hp.step (rel := rD G) fun d1 h1 ι1 H1 x e1 rh1 v1 hp1 => ?_⟩
      split at hp1
      · exact ⟨_, v1, hp1 ι1 H1 _ .refl rh1 rfl⟩
      · exact hp1.elim
    · cases h
  | .cmp o a b, S, B, X, W, e, h, g, tk => by
    simp only [okE] at h
    split at h
    · obtain ⟨h1, h0⟩ := b2 h
      obtain ⟨h2, h0⟩ := b2 h0
      obtain ⟨h3, h4⟩ := b2 h0
      have hm := nb h2
      have eo := of_decide_eq_true h1
      subst eo
      have L : ∀ σ H Q, rdE G (evC P k) W (.cmp o a b) σ H Q → tOp (rCmp G o) (rdE G (evC P k) W a) (rdE G (evC P k) W b) σ H Q := fun σ H Q ⟨ι, env, ah, rh, rs, hp⟩ => by
        simp only [evE] at hp
        refine ⟨ι, env, ah, rh, rs, hp.step (rel := rD G) fun d1 h1 ι1 H1 x e1 rh1 v1 hp1 => ⟨ι1, env, h1, rh1, rs.ext e1, hp1.step (rel := rD G) fun d2 h2 ι2 H2 y e2 rh2 v2 hp2 => ?_⟩⟩
        obtain ⟨c, hc, hp3⟩ := hp2.ofO
        exact ⟨ι2, h2, d1, d2, c, rh2, DV.ext e2 _ _ v1, v2, hc, hp3 ι2 H2 _ .refl rh2 rfl⟩
      exact ⟨(pe_cmpR (snd_cmp g.gd o) (sE F a h3 g tk).1 (sE F b h4 g tk).1 hm).le L,
        (pt_cmpR (snd_cmp g.gd o) (sE F a h3 g tk).1 (sE F b h4 g tk).1 hm).le fun σ H Q q => L σ H _ (toBl (fun _ _ _ _ z => evE_cmp_bl z) q), fun z => by cases z⟩
    · cases h
  | .cmp2 o o' a b c, S, B, X, W, e, h, g, tk => by
    simp only [okE] at h
    split at h
    · obtain ⟨h1, h0⟩ := b2 h
      obtain ⟨h2, h01⟩ := b2 h0
      obtain ⟨h3, h02⟩ := b2 h01
      obtain ⟨h4, h03⟩ := b2 h02
      obtain ⟨h5, h6⟩ := b2 h03
      have hm := nb h3
      have eo := of_decide_eq_true h1
      have eo' := of_decide_eq_true h2
      subst eo eo'
      have L : ∀ σ H Q, rdE G (evC P k) W (.cmp2 o o' a b c) σ H Q → tChain (rCmp G o) (rCmp G o') (rdE G (evC P k) W a) (rdE G (evC P k) W b) (rdE G (evC P k) W c) σ H Q := fun σ H Q ⟨ι, env, ah, rh, rs, hp⟩ => by
        simp only [evE] at hp
        refine ⟨ι, env, ah, rh, rs, hp.step (rel := rD G) fun d1 h1 ι1 H1 x e1 rh1 v1 hp1 => ⟨ι1, env, h1, rh1, rs.ext e1, hp1.step (rel := rD G) fun d2 h2 ι2 H2 y e2 rh2 v2 hp2 => ?_⟩⟩
        obtain ⟨kk, hc, hp3⟩ := hp2.ofO
        refine ⟨ι2, h2, d1, d2, kk, rh2, DV.ext e2 _ _ v1, v2, hc, kk, rfl, ?_⟩
        cases kk with
        | false => exact hp3 ι2 H2 _ .refl rh2 rfl
        | true =>
          simp only [if_true] at hp3 ⊢
          refine ⟨ι2, env, h2, rh2, (rs.ext e1).ext e2, hp3.step (rel := rD G) fun d3 h3 ι3 H3 z e3 rh3 v3 hp4 => ?_⟩
          obtain ⟨c', hc', hp5⟩ := hp4.ofO
          exact ⟨ι3, h3, d2, d3, c', rh3, DV.ext e3 _ _ v2, v3, hc', hp5 ι3 H3 _ .refl rh3 rfl⟩
      exact ⟨(pe_chain (snd_cmp g.gd o) (snd_cmp g.gd o') (sE F a h4 g tk).1 (sE F b h5 g tk).1 (sE F c h6 g tk).1 hm).le L,
        (pt_chain (snd_cmp g.gd o) (snd_cmp g.gd o') (sE F a h4 g tk).1 (sE F b h5 g tk).1 (sE F c h6 g tk).1 hm).le fun σ H Q q => L σ H _ (toBl (fun _ _ _ _ z => evE_cmp2_bl z) q), fun z => by cases z⟩
    · cases h
  | .and a b, S, B, X, W, e, h, g, tk => by
    have LE : ∀ σ H Q, rdE G (evC P k) W (.and a b) σ H Q → tAndT X.K (rdE G (evC P k) W a) (rdE G (evC P k) W b) σ H Q := fun σ H Q ⟨ι, env, ah, rh, rs, hp⟩ => by
      simp only [evE] at hp
      refine ⟨ι, env, ah, rh, rs, hp.step (rel := rD G) fun d1 h1 ι1 H1 x e1 rh1 v1 hp1 => ?_⟩
      obtain ⟨kk, hk, hp2⟩ := hp1.ofO
      refine ⟨kk, by rw [g.gd.K]; exact tru_of rh1 v1 hk, ?_⟩
      cases kk with
      | false => exact hp2 ι1 H1 _ .refl rh1 v1
      | true => exact ⟨ι1, env, h1, rh1, rs.ext e1, hp2⟩
    have LT : ∀ σ H Q, rdB G (evC P k) W (.and a b) σ H Q → tAnd (rdB G (evC P k) W a) (rdB G (evC P k) W b) σ H Q := fun σ H Q ⟨ι, env, ah, rh, rs, hp⟩ => by
      rw [evB_and] at hp
      refine ⟨ι, env, ah, rh, rs, hp.step (rel := rX Bool) fun d1 h1 ι1 H1 x e1 rh1 v1 hp1 => ?_⟩
      have v1' : d1 = x := v1
      subst v1'
      cases d1 with
      | false => exact hp1 ι1 H1 _ .refl rh1 rfl
      | true => exact ⟨ι1, env, h1, rh1, rs.ext e1, hp1⟩
    simp only [okE] at h
    split at h
    · rename_i x y pos
      obtain ⟨h1, h2⟩ := b2 h
      have A := sE F a h1 g tk
      have C := sE F b h2 g tk
      have PWh := (pw_and (pos := pos) A.2.1 (pw_and1 C.2.1)).le LT
      exact ⟨(pe_andT A.1 (pe_one C.1)).le LE, PWh.pt, fun _ => PWh⟩
    · rename_i x y z r pos
      obtain ⟨h1, h2⟩ := b2 h
      have A := sE F a h1 g tk
      have C := sE F b h2 g tk
      have PWh := (pw_and (pos := pos) A.2.1 (C.2.2 rfl)).le LT
      exact ⟨(pe_andT A.1 C.1).le LE, PWh.pt, fun _ => PWh⟩
    · cases h
  | .or a b, S, B, X, W, e, h, g, tk => by
    have LE : ∀ σ H Q, rdE G (evC P k) W (.or a b) σ H Q → tOrT X.K (rdE G (evC P k) W a) (rdE G (evC P k) W b) σ H Q := fun σ H Q ⟨ι, env, ah, rh, rs, hp⟩ => by
      simp only [evE] at hp
      refine ⟨ι, env, ah, rh, rs, hp.step (rel := rD G) fun d1 h1 ι1 H1 x e1 rh1 v1 hp1 => ?_⟩
      obtain ⟨kk, hk, hp2⟩ := hp1.ofO
      refine ⟨kk, by rw [g.gd.K]; exact tru_of rh1 v1 hk, ?_⟩
      cases kk with
      | true => exact hp2 ι1 H1 _ .refl rh1 v1
      | false => exact ⟨ι1, env, h1, rh1, rs.ext e1, hp2⟩
    have LT : ∀ σ H Q, rdB G (evC P k) W (.or a b) σ H Q → tOr (rdB G (evC P k) W a) (rdB G (evC P k) W b) σ H Q := fun σ H Q ⟨ι, env, ah, rh, rs, hp⟩ => by
      rw [evB_or] at hp
      refine ⟨ι, env, ah, rh, rs, hp.step (rel := rX Bool) fun d1 h1 ι1 H1 x e1 rh1 v1 hp1 => ?_⟩
      have v1' : d1 = x := v1
      subst v1'
      cases d1 with
      | true => exact hp1 ι1 H1 _ .refl rh1 rfl
      | false => exact ⟨ι1, env, h1, rh1, rs.ext e1, hp1⟩
    simp only [okE] at h
    split at h
    · rename_i x y pos
      obtain ⟨h1, h2⟩ := b2 h
      have A := sE F a h1 g tk
      have C := sE F b h2 g tk
      have PWh := (pw_or (pos := pos) A.2.1 (pw_or1 C.2.1)).le LT
      exact ⟨(pe_orT A.1 (pe_one C.1)).le LE, PWh.pt, fun _ => PWh⟩
    · rename_i x y z r pos
      obtain ⟨h1, h2⟩ := b2 h
      have A := sE F a h1 g tk
      have C := sE F b h2 g tk
      have PWh := (pw_or (pos := pos) A.2.1 (C.2.2 rfl)).le LT
      exact ⟨(pe_orT A.1 C.1).le LE, PWh.pt, fun _ => PWh⟩
    · cases h
  | .not a, S, B, X, W, e, h, g, tk => by
    simp only [okE] at h
    split at h
    · have A := sE F a h g tk
      refine ⟨(pe_notT A.1).le fun σ H Q ⟨ι, env, ah, rh, rs, hp⟩ => ?_, (pt_not A.2.1).le fun σ H Q ⟨ι, env, ah, rh, rs, hp⟩ => ?_, fun z => by cases z⟩
      · simp only [evE] at hp
        refine ⟨ι, env, ah, rh, rs, hp.step (rel := rD G) fun d1 h1 ι1 H1 x e1 rh1 v1 hp1 => ?_⟩
        obtain ⟨kk, hk, hp2⟩ := hp1.ofO
        exact ⟨kk, by rw [g.gd.K]; exact tru_of rh1 v1 hk, hp2 ι1 H1 _ .refl rh1 rfl⟩
      · rw [evB_not] at hp
        refine ⟨ι, env, ah, rh, rs, hp.step (rel := rX Bool) fun d1 h1 ι1 H1 x e1 rh1 v1 hp1 => ?_⟩
        have v1' : d1 = x := v1
        subst v1'
        exact hp1 ι1 H1 _ .refl rh1 rfl
    · cases h
  | .ite t a b, S, B, X, W, e, h, g, tk => by
    simp only [okE] at h
    split at h
    · obtain ⟨h1, h2⟩ := b2 h
      obtain ⟨h2, h3⟩ := b2 h2
      have A := sE F t h1 g tk
      have C := sE F a h2 g tk
      have D' := sE F b h3 g tk
      refine ⟨(pe_ifExp A.2.1 C.1 D'.1).le fun σ H Q ⟨ι, env, ah, rh, rs, hp⟩ => ?_, (pt_if A.2.1 C.2.1 D'.2.1).le fun σ H Q ⟨ι, env, ah, rh, rs, hp⟩ => ?_, fun z => by cases z⟩
      · rw [evE_ite] at hp
        refine ⟨ι, env, ah, rh, rs, hp.step (rel := rX Bool) fun d1 h1 ι1 H1 x e1 rh1 v1 hp1 => ?_⟩
        have v1' : d1 = x := v1
        subst v1'
        cases d1 with
        | true => exact ⟨ι1, env, h1, rh1, rs.ext e1, hp1⟩
        | false => exact ⟨ι1, env, h1, rh1, rs.ext e1, hp1⟩
      · rw [evB_ite] at hp
        refine ⟨ι, env, ah, rh, rs, hp.step (rel := rX Bool) fun d1 h1 ι1 H1 x e1 rh1 v1 hp1 => ?_⟩
        have v1' : d1 = x := v1
        subst v1'
        cases d1 with
        | true => exact ⟨ι1, env, h1, rh1, rs.ext e1, hp1⟩
        | false => exact ⟨ι1, env, h1, rh1, rs.ext e1, hp1⟩
    · cases h
  | .call f es, S, B, X, W, e, h, g, tk => by
    simp only [okE] at h
    split at h
    · rename_i x p xs pos
      obtain ⟨h1, h01⟩ := b2 h
      obtain ⟨h2, h02⟩ := b2 h01
      obtain ⟨h3, h4⟩ := b2 h02
      obtain ⟨n1, _, _⟩ := nm_ok h3
      have hgl := gl_ok g.gd h2
      clear h h01 h02
      obtain ⟨hm, hk, fd, ps, fn, hP, hl, hb, FG⟩ := F.fn f x (of_decide_eq_true h1)
      have hm' : X.mg x = some (.ref (G.fa f)) := by rw [g.gd.mg]; exact hm
      have hk' : PySem.W.keepIn X.K (.ref (G.fa f)) = true := by rw [g.gd.K]; exact hk
      have st := okEs_star h4
      have fin : ∀ {ι1 : List Addr} {h1 : AH} {H1 : Hp} {ds : List D} {vs : List V} {Q : VK} {σ : L2.St}, RH G ι1 h1 H1 → DVs G ι1 H1 ds vs → Pst G (rD G) ι1 H1 (evC P k f ds h1) Q (xk W σ) → spF G P k f fn.np vs H1 Q (xk W σ) := fun {ι1 h1 H1 ds vs Q σ} rh1 v1 hp1 => by
        refine ⟨?_, ι1, h1, ds, rh1, v1, hp1⟩
        rw [DVs.len v1]
        cases k with
        | zero => exact hp1.elim
        | succ k =>
          simp only [evC] at hp1
          rw [hP] at hp1
          dsimp only at hp1
          split at hp1
          · assumption
          · exact hp1.elim
      cases es with
      | nil =>
        cases xs with
        | cons _ _ => cases h4
        | nil =>
          refine pl g.gd ((pe_callG0 g.gd tk FG hb hgl hm' hk' n1).le fun σ H Q ⟨ι, env, ah, rh, rs, hp⟩ => ?_) rfl rfl
          simp only [evE, evEs, R.bind_ok] at hp
          exact fin rh DVs.nil hp
      | cons ce ces =>
        cases xs with
        | nil => cases h4
        | cons y ys =>
          refine pl g.gd ((pe_callG g.gd tk FG hb hgl hm' hk' (sEs F (.cons ce ces) h4 g tk) (st y List.mem_cons_self) (fun z hz => st z (List.mem_cons_of_mem _ hz)) n1).le fun σ H Q ⟨ι, env, ah, rh, rs, hp⟩ => ?_) rfl rfl
          rw [evE] at hp
          exact ⟨ι, env, ah, rh, rs, hp.step (rel := rDs G) fun ds h1 ι1 H1 vs e1 rh1 v1 hp1 => fin rh1 v1 hp1⟩
    · cases h
  | .callv v es, S, B, X, W, e, h, g, tk => by simp [okE] at h
  | .isi a t, S, B, X, W, e, h, g, tk => by
    simp only [okE] at h
    split at h
    · rename_i x p y z q pos
      obtain ⟨h1, h⟩ := b2 h
      obtain ⟨h2, h⟩ := b2 h
      obtain ⟨h3, h⟩ := b2 h
      obtain ⟨h4, h⟩ := b2 h
      obtain ⟨h5, h⟩ := b2 h
      obtain ⟨h6, h⟩ := b2 h
      obtain ⟨h7, h⟩ := b2 h
      have ex := of_decide_eq_true h1
      have ez := of_decide_eq_true h2
      have hx : X.mg x = none := by rw [g.gd.mg]; exact F.free x (of_decide_eq_true h5)
      have hz : X.mg z = none := by rw [g.gd.mg]; exact F.free z (of_decide_eq_true h6)
      have pz : PE X (.Name z q) (tC (.ty (tyN t))) := pe_bltn (u := .type (tyN t)) (gl_ok g.gd h4) hz (by rw [ez]; exact boot_ty t) rfl (by rw [ez]; cases t <;> decide +kernel) (by rw [ez]; cases t <;> decide +kernel)
      refine pl g.gd ((pe_callB (snd_isi g.gd t) (gl_ok g.gd h3) hx (by rw [ex]; exact boot_isi) (pa_cons (sE F a h g tk).1 (pa_cons pz pa_nil) (star_cons h7)) (by rw [ex]; decide +kernel) (by rw [ex]; decide +kernel) (star_cons h7) rfl).le
        fun σ H Q ⟨ι, env, ah, rh, rs, hp⟩ => ?_) rfl rfl
      simp only [evE] at hp
      refine ⟨ι, env, ah, rh, rs, hp.step (rel := rD G) fun d1 h1 ι1 H1 x e1 rh1 v1 hp1 => ?_⟩
      obtain ⟨c, hc, hp2⟩ := hp1.ofO
      exact ⟨ι1, h1, d1, x, c, rfl, rh1, v1, hc, hp2 ι1 H1 _ .refl rh1 rfl⟩
    · cases h
  | .blt b es, S, B, X, W, e, h, g, tk => by
    simp only [okE] at h
    split at h
    · obtain ⟨h1, h2⟩ := b2 h
      have st := okEs_star h2
      refine pl g.gd ((pe_blt g.gd F h1 (sEs F es h2 g tk) (st _ List.mem_cons_self) (fun z hz => st z (List.mem_cons_of_mem _ hz))).le fun σ H Q ⟨ι, env, ah, rh, rs, hp⟩ => ?_) rfl rfl
      simp only [evE] at hp
      exact ⟨ι, env, ah, rh, rs, hp.step (rel := rDs G) fun ds h1 ι1 H1 vs e1 rh1 v1 hp1 => ⟨ι1, h1, ds, _, rh1, v1, hp1⟩⟩
    · cases h
  | .bltT b t, S, B, X, W, e, h, g, tk => by
    simp only [okE] at h
    split at h
    · obtain ⟨h1, h2⟩ := b2 h
      obtain ⟨h2, h3⟩ := b2 h2
      refine pl g.gd ((pe_bltT g.gd F h1 (pa_cons (sT F t h3 g tk) pa_nil (star_cons h2)) h2).le fun σ H Q ⟨ι, env, ah, rh, rs, hp⟩ => ?_) rfl rfl
      simp only [evE] at hp
      refine ⟨ι, env, ah, rh, rs, hp.step (rel := rL G) fun ds h1 ι1 H1 vs e1 rh1 v1 hp1 => ?_⟩
      obtain ⟨a, us, rfl, v2, v3, v4, v5⟩ := v1
      exact ⟨ι1, h1, ds, a, us, _, rfl, v2, rh1, v5, hp1⟩
    · cases h
  | .join s t, S, B, X, W, e, h, g, tk => by
    simp only [okE] at h
    split at h
    · rename_i x m q y p
      obtain ⟨h1, h⟩ := b2 h
      obtain ⟨h2, h⟩ := b2 h
      obtain ⟨h3, h⟩ := b2 h
      obtain ⟨h4, h⟩ := b2 h
      obtain ⟨h5, h6⟩ := b2 h
      have em := of_decide_eq_true h1
      subst em
      refine pl g.gd ((pe_join (sE F s h5 g tk).1 (sT F t h6 g tk) (star_cons h3) (base_plain h2) (of_decide_eq_true h4)).le fun σ H Q ⟨ι, env, ah, rh, rs, hp⟩ => ?_) rfl rfl
      simp only [evE] at hp
      refine ⟨ι, env, ah, rh, rs, hp.step (rel := rD G) fun d1 h1 ι1 H1 x e1 rh1 v1 hp1 => ?_⟩
      split at hp1
      · rename_i sep
        have ex : x = V.str sep := v1
        refine ⟨⟨sep, ex⟩, ι1, env, h1, rh1, rs.ext e1, hp1.step (rel := rL G) fun ds h2 ι2 H2 vs e2 rh2 v2 hp2 => ?_⟩
        split at hp2
        · rename_i ys hy
          split at hp2
          · rename_i hz
            obtain ⟨a, us, rfl, w1, w2, w3, w4⟩ := v2
            have eu := DVs.strs w4 hy
            subst eu
            exact ⟨sep, a, ys, ex, rfl, .inl (SqL.of w1), hz, hp2 ι2 H2 _ .refl rh2 rfl⟩
          · exact hp2.elim
        · exact hp2.elim
      · exact hp1.elim
    · cases h
  | .sub a i, S, B, X, W, e, h, g, tk => by
    simp only [okE] at h
    split at h
    · obtain ⟨h1, h2⟩ := b2 h
      obtain ⟨h2, h3⟩ := b2 h2
      refine pl g.gd ((pe_ix (snd_sub g.gd) (sE F a h2 g tk).1 (sE F i h3 g tk).1 (plain_ix h1)).le fun σ H Q ⟨ι, env, ah, rh, rs, hp⟩ => ?_) rfl rfl
      simp only [evE] at hp
      exact ⟨ι, env, ah, rh, rs, hp.step (rel := rD G) fun d1 h1 ι1 H1 x e1 rh1 v1 hp1 => ⟨ι1, env, h1, rh1, rs.ext e1, hp1.step (rel := rD G) fun d2 h2 ι2 H2 y e2 rh2 v2 hp2 => ⟨ι2, h2, d1, d2, _, rh2, DV.ext e2 _ _ v1, v2, hp2⟩⟩⟩
    · cases h
  | .slice a lo hi, S, B, X, W, e, h, g, tk => by
    simp only [okE] at h
    split at h
    · obtain ⟨h1, h2⟩ := b2 h
      obtain ⟨h2, h3⟩ := b2 h2
      refine pl g.gd ((pe_slice (snd_sl g.gd) (sE F a h1 g tk).1 (sO F lo h2 g tk) (sO F hi h3 g tk)).le fun σ H Q ⟨ι, env, ah, rh, rs, hp⟩ => ?_) rfl rfl
      simp only [evE] at hp
      refine ⟨ι, env, ah, rh, rs, hp.step (rel := rD G) fun d1 h1 ι1 H1 x e1 rh1 v1 hp1 => ⟨ι1, env, h1, rh1, rs.ext e1, hp1.step (rel := rX (Option Int)) fun d2 h2 ι2 H2 y e2 rh2 v2 hp2 =>
        ⟨ι2, env, h2, rh2, (rs.ext e1).ext e2, hp2.step (rel := rX (Option Int)) fun d3 h3 ι3 H3 z e3 rh3 v3 hp3 => ?_⟩⟩⟩
      have v2' : d2 = y := v2
      have v3' : d3 = z := v3
      subst v2' v3'
      exact ⟨ι3, h3, d1, _, rh3, DV.ext e3 _ _ (DV.ext e2 _ _ v1), hp3⟩
    · cases h
  | .alloc t, S, B, X, W, e, h, g, tk => by
    simp only [okE] at h
    have hp0 : plainT e = true ∧ isBo e = false := by
      cases t <;> simp only [okT] at h <;> split at h <;> first | exact ⟨rfl, rfl⟩ | cases h
    refine pl g.gd ((sT F t h g tk).le fun σ H Q ⟨ι, env, ah, rh, rs, hp⟩ => ?_) hp0.1 hp0.2
    simp only [evE] at hp
    refine ⟨ι, env, ah, rh, rs, ?_⟩
    cases q : evT (evC P k) t env ah with
    | bad => rw [q] at hp; exact hp.elim
    | exc c v h1 => rw [q] at hp; exact hp
    | ok ds h1 =>
      rw [q, R.bind_ok] at hp
      intro ι1 H1 v e1 rh1 ⟨a, vs, ev, v1, v2, v3, v4⟩
      subst ev
      refine hp (ι1 ++ [a]) H1 (.ref a) ⟨e1.pre.trans (List.prefix_append _ _), fun b hb => ?_, e1.keep, e1.fix⟩ (rh1.adopt v1 v2 v4) ⟨a, by rw [← rh1.len, List.getElem?_append_right (Nat.le_refl _), Nat.sub_self]; rfl, rfl⟩
      rcases List.mem_append.mp hb with z | z
      · exact e1.new b z
      · exact .inr (by rw [List.mem_singleton.mp z]; exact v3)
  | .meth m o es, S, B, X, W, e, h, g, tk => by
    simp only [okE] at h
    split at h
    · rename_i x n q y p
      obtain ⟨h1, h⟩ := b2 h
      obtain ⟨h2, h⟩ := b2 h
      obtain ⟨h3, h⟩ := b2 h
      obtain ⟨h4, h⟩ := b2 h
      obtain ⟨h5, h6⟩ := b2 h
      have em := of_decide_eq_true h1
      subst em
      have en := of_decide_eq_true h2
      subst en
      have st := okEs_star h6 y List.mem_cons_self
      refine pl g.gd ((pe_bm PySem.F.plainAttrs_list PySem.F.slot_list_append PySem.F.type_list_append (snd_append g.gd) (sE F o h5 g tk).1 (sEs F es h6 g tk) (base_plain h3) (by rw [star_cons st]; rfl) (of_decide_eq_true h4) (star_cons st) rfl).le
        fun σ H Q ⟨ι, env, ah, rh, rs, hp⟩ => ?_) rfl rfl
      simp only [evE] at hp
      refine ⟨ι, env, ah, rh, rs, hp.step (rel := rD G) fun d1 h1 ι1 H1 x e1 rh1 v1 hp1 => ?_⟩
      split at hp1
      · rename_i hm
        refine ⟨?_, ι1, env, h1, rh1, rs.ext e1, hp1.step (rel := rDs G) fun ds h2 ι2 H2 vs e2 rh2 v2 hp2 => ⟨ι2, h2, d1, ds, _, rh2, DV.ext e2 _ _ v1, v2, hp2⟩⟩
        cases d1 with
        | ref n =>
          obtain ⟨a, w1, rfl⟩ := v1
          simp only [methOk] at hm
          split at hm
          · rename_i ds hc
            obtain ⟨vs, w2, w3⟩ := rh1.cell _ a _ w1 hc
            exact .inl ⟨rfl, vs, SqL.of w2⟩
          · cases hm
        | _ => simp [methOk] at hm
      · exact hp1.elim
    · cases h
theorem sEs (F : Fa G T P k) : ∀ (c : CEs) {S B : Scope} {X : Cx} {W : WX} {xs : List Expr}, okEs T N S B c xs = true → Gd2 G S B N k X → Takes X W → PA X xs (rdEs G (evC P k) W c)
  | .nil, S, B, X, W, xs, h, g, tk => by
    cases xs with
    | cons _ _ => cases h
    | nil =>
      refine pa_nil.le fun σ H Q ⟨ι, env, ah, rh, rs, hp⟩ => ?_
      simp only [evEs] at hp
      exact hp ι H [] .refl rh rfl
  | .cons e es, S, B, X, W, xs, h, g, tk => by
    cases xs with
    | nil => cases h
    | cons y r =>
      obtain ⟨h1, h2⟩ := b2 (show (unstar y && (okE T N S B e y && okEs T N S B es r)) = true by simpa only [okEs] using h)
      obtain ⟨h2, h3⟩ := b2 h2
      refine (pa_cons (sE F e h2 g tk).1 (sEs F es h3 g tk) (star_cons h1)).le fun σ H Q ⟨ι, env, ah, rh, rs, hp⟩ => ?_
      simp only [evEs] at hp
      exact ⟨ι, env, ah, rh, rs, hp.step (rel := rD G) fun d1 h1 ι1 H1 x e1 rh1 v1 hp1 => ⟨ι1, env, h1, rh1, rs.ext e1, hp1.step (rel := rDs G) fun ds h2 ι2 H2 vs e2 rh2 v2 hp2 => hp2 ι2 H2 _ .refl rh2 (DVs.cons (DV.ext e2 _ _ v1) v2)⟩⟩
theorem sO (F : Fa G T P k) : ∀ (c : CO) {S B : Scope} {X : Cx} {W : WX} {xs : Option Expr}, okO T N S B c xs = true → Gd2 G S B N k X → Takes X W → PO X xs (rdO G (evC P k) W c)
  | .none, S, B, X, W, xs, h, g, tk => by
    cases xs with
    | some _ => cases h
    | none =>
      refine po_none.le fun σ H Q ⟨ι, env, ah, rh, rs, hp⟩ => ?_
      simp only [evO] at hp
      exact hp ι H none .refl rh rfl
  | .some e, S, B, X, W, xs, h, g, tk => by
    cases xs with
    | none => simp [okO] at h
    | some y =>
      simp only [okO] at h
      refine (po_some (sE F e h g tk).1).le fun σ H Q ⟨ι, env, ah, rh, rs, hp⟩ => ?_
      simp only [evO] at hp
      refine ⟨ι, env, ah, rh, rs, hp.step (rel := rD G) fun d1 h1 ι1 H1 x e1 rh1 v1 hp1 => ?_⟩
      split at hp1
      · exact ⟨_, v1, hp1 ι1 H1 _ .refl rh1 rfl⟩
      · exact hp1.elim
theorem sT (F : Fa G T P k) : ∀ (c : CT) {S B : Scope} {X : Cx} {W : WX} {e : Expr}, okT T N S B c e = true → Gd2 G S B N k X → Takes X W → PE X e (rdT G (evC P k) W c)
  | .lst es, S, B, X, W, e, h, g, tk => by
    simp only [okT] at h
    split at h
    · refine (pe_lst (sEs F es h g tk)).le fun σ H Q ⟨ι, env, ah, rh, rs, hp⟩ => ?_
      simp only [evT] at hp
      refine ⟨ι, env, ah, rh, rs, hp.step (rel := rDs G) fun ds h1 ι1 H1 vs e1 rh1 v1 hp1 => ?_⟩
      split at hp1
      · rename_i hz
        exact ⟨by rw [DVs.len v1]; exact sz_le hz, fun p hp2 => hp1 ι1 _ _ (ext_new rh1 hp2) (rh1.new hp2) ⟨p, vs, rfl, upd_same, rh1.notIn hp2, hp2, DVs.ext (ext_new rh1 hp2) _ _ v1⟩⟩
      · exact hp1.elim
    · cases h
  | .lc own tg it ifs el, S, B, X, W, e, h, g, tk => by
    simp only [okT] at h
    split at h
    · rename_i x t i fs sc pos
      obtain ⟨ha, hb⟩ := b2 h
      obtain ⟨h1, ha⟩ := b2 ha
      obtain ⟨h2, h3⟩ := b2 ha
      obtain ⟨h4, hb⟩ := b2 hb
      obtain ⟨h5, hb⟩ := b2 hb
      obtain ⟨h6, h7⟩ := b2 hb
      have bo : BlkOk N S sc (okBlk N own) := blkOk_by h3
      have hs := of_decide_eq_true h5
      have bk := fun s H C cl fp => gd_blk (G := G) (X := X) g.gd bo s H C cl fp
      refine (pe_lc (own := okBlk N own) (g := rdG G (evC P k) NoW tg) (tt := rdFs G (evC P k) NoW ifs) (te := rdE G (evC P k) NoW el) g.gd.calm (by rw [g.gd.names]; exact g.gd.nd) (sI F it h2 g tk) (by rw [g.gd.names, g.gd.sc]; exact bo)
        (fun s H C cl fp => sG F tg h4 (bk s H C cl fp) takes_no) (fun s H C cl fp => sFs F ifs h7 (bk s H C cl fp) takes_no) (fun s H C cl fp => (sE F el h6 (bk s H C cl fp) takes_no).1) (set_plain h1)).le fun σ H Q ⟨ι, env, ah, rh, rs, hp⟩ => ?_
      rw [okBlk_snd]
      simp only [evT] at hp
      refine ⟨ι, env, ah, rh, rs, ?_⟩
      refine Pst.step (rel := RV.rI G) ?_ fun src h1 ι1 H1 J e1 rh1 y1 hp1 D hD => comp_turns y1 rh1 (rs.ext e1) hs hp1 D hD
      exact hp
    · cases h
theorem sFs (F : Fa G T P k) : ∀ (c : CO) {S B : Scope} {X : Cx} {W : WX} {xs : List Expr}, okFs T N S B c xs = true → Gd2 G S B N k X → Takes X W → PTs X xs (rdFs G (evC P k) W c)
  | .none, S, B, X, W, xs, h, g, tk => by
    cases xs with
    | cons _ _ => cases h
    | nil =>
      refine pts_nil.le fun σ H Q ⟨ι, env, ah, rh, rs, hp⟩ => ?_
      simp only [evF] at hp
      exact hp ι H true .refl rh rfl
  | .some e, S, B, X, W, xs, h, g, tk => by
    simp only [okFs] at h
    split at h
    · refine (pts_one (sE F e h g tk).2.1).le fun σ H Q ⟨ι, env, ah, rh, rs, hp⟩ => ?_
      simp only [evF] at hp
      exact ⟨ι, env, ah, rh, rs, hp⟩
    · cases h
theorem sI (F : Fa G T P k) : ∀ (c : CI) {S B : Scope} {X : Cx} {W : WX} {tg e : Expr}, okI T N S B c e = true → Gd2 G S B N k X → Takes X W → PI X tg e (rdI G (evC P k) W c)
  | .val a, S, B, X, W, tg, e, h, g, tk => by
    simp only [okI] at h
    refine (pi_seq (sE F a h g tk).1).le fun σ H Q ⟨ι, env, ah, rh, rs, hp⟩ => ?_
    simp only [evI] at hp
    refine ⟨ι, env, ah, rh, rs, hp.step (rel := rD G) fun d1 h1 ι1 H1 x e1 rh1 v1 hp1 => ?_⟩
    rw [g.gd.K]
    unfold walkP at hp1
    split at hp1
    · obtain ⟨a, vs, rfl, w1, w2⟩ := v1
      exact ⟨a, rfl, .inr ⟨⟨vs, w1⟩, hp1 ι1 H1 _ .refl rh1 (yields_tup fun ι2 h2 H2 e2 r2 _ => ⟨vs, SqT.ext w1 e2, DVs.ext e2 _ _ w2⟩)⟩⟩
    · obtain ⟨a, vs, rfl, w1, w2⟩ := v1
      exact ⟨a, rfl, .inl ⟨⟨vs, w1.sq⟩, hp1 ι1 H1 _ .refl rh1 (yields_list fun ι2 h2 H2 e2 r2 _ => ⟨vs, (FzL.ext w1 e2).sq, DVs.ext e2 _ _ w2⟩)⟩⟩
    · rename_i n
      obtain ⟨a, w1, rfl⟩ := v1
      split at hp1
      · rename_i ds hc
        obtain ⟨vs, w2, w3⟩ := rh1.cell _ a _ w1 hc
        refine ⟨a, rfl, .inl ⟨⟨vs, SqL.of w2⟩, hp1 ι1 H1 _ .refl rh1 (yields_list fun ι2 h2 H2 e2 r2 hd => ?_)⟩⟩
        have hc2 : h2[n]? = some (Cell.lst ds) := by
          simpa [depsOk] using hd
        obtain ⟨us, u1, u2⟩ := r2.cell n a _ (pre_get e2.pre w1) hc2
        exact ⟨us, SqL.of u1, u2⟩
      · exact hp1.elim
    · exact hp1.elim
  | .rng1 a, S, B, X, W, tg, e, h, g, tk => by
    simp only [okI] at h
    split at h
    · obtain ⟨h1, h⟩ := b2 h
      obtain ⟨h2, h⟩ := b2 h
      obtain ⟨h3, h⟩ := b2 h
      obtain ⟨h4, h5⟩ := b2 h
      have ex := of_decide_eq_true h1
      subst ex
      refine (pi_range1 (gl_ok g.gd h2) (by rw [g.gd.mg]; exact F.free _ (of_decide_eq_true h3)) (pa_cons (sE F a h5 g tk).1 pa_nil (star_cons h4)) (star_cons h4)).le fun σ H Q ⟨ι, env, ah, rh, rs, hp⟩ => ?_
      simp only [evI] at hp
      refine ⟨ι, env, ah, rh, rs, hp.step (rel := rD G) fun d1 h1 ι1 H1 x e1 rh1 v1 hp1 => ?_⟩
      unfold rng1P at hp1
      split at hp1
      · split at hp1
        · rename_i hz
          exact ⟨_, congrArg (fun z => [z]) v1, hz.1, hz.2, hp1 ι1 H1 _ .refl rh1 (yields_range _ _ _ _)⟩
        · exact hp1.elim
      · exact hp1.elim
    · cases h
  | .rng2 a b, S, B, X, W, tg, e, h, g, tk => by
    simp only [okI] at h
    split at h
    · obtain ⟨h1, h⟩ := b2 h
      obtain ⟨h2, h⟩ := b2 h
      obtain ⟨h3, h⟩ := b2 h
      obtain ⟨h4, h⟩ := b2 h
      obtain ⟨h5, h⟩ := b2 h
      obtain ⟨h6, h7⟩ := b2 h
      have ex := of_decide_eq_true h1
      subst ex
      refine (pi_range2 (gl_ok g.gd h2) (by rw [g.gd.mg]; exact F.free _ (of_decide_eq_true h3)) (pa_cons (sE F a h6 g tk).1 (pa_cons (sE F b h7 g tk).1 pa_nil (star_cons h5)) (star_cons h4)) (by rw [star_cons h4, star_cons h5]; rfl) (star_cons h5)).le fun σ H Q ⟨ι, env, ah, rh, rs, hp⟩ => ?_
      simp only [evI] at hp
      refine ⟨ι, env, ah, rh, rs, hp.step (rel := rD G) fun d1 h1 ι1 H1 x e1 rh1 v1 hp1 => ⟨ι1, env, h1, rh1, rs.ext e1, hp1.step (rel := rD G) fun d2 h2 ι2 H2 y e2 rh2 v2 hp2 => ?_⟩⟩
      unfold rng2P at hp2
      split at hp2
      · split at hp2
        · rename_i hz
          have e1 : x = V.int _ := v1
          have e2 : y = V.int _ := v2
          exact ⟨_, _, by rw [e1, e2], ⟨hz.1, hz.2.1, hz.2.2.1, hz.2.2.2⟩, hp2 ι2 H2 _ .refl rh2 (yields_range _ _ _ _)⟩
        · exact hp2.elim
      · exact hp2.elim
    · cases h
  | .tmp t, S, B, X, W, tg, e, h, g, tk => by
    simp only [okI] at h
    refine (pi_list (sT F t h g tk)).le fun σ H Q ⟨ι, env, ah, rh, rs, hp⟩ => ?_
    simp only [evI] at hp
    refine ⟨ι, env, ah, rh, rs, hp.step (rel := rL G) fun ds h1 ι1 H1 x e1 rh1 v1 hp1 => ?_⟩
    obtain ⟨a, vs, rfl, w1, w2, w3, w4⟩ := v1
    exact ⟨a, rfl, ⟨vs, SqL.of w1⟩, hp1 ι1 H1 _ .refl rh1 (yields_list fun ι2 h2 H2 e2 r2 _ => ⟨vs, SqL.of (e2.keep a _ w1 w2), DVs.ext e2 _ _ w4⟩)⟩
theorem sG (F : Fa G T P k) : ∀ (c : Tg) {S B : Scope} {X : Cx} {W : WX} {e : Expr}, okG T N S B c e = true → Gd2 G S B N k X → Takes X W → PG X e (rdG G (evC P k) W c)
  | .name i, S, B, X, W, e, h, g, tk => by
    simp only [okG] at h
    split at h
    · obtain ⟨h1, h2⟩ := b2 h
      obtain ⟨s1, s2⟩ := g.st _ (loc_ok h2)
      refine (pg_name (i := i) (by rw [g.gd.names]; exact g.gd.nd) (by rw [g.gd.names]; exact of_decide_eq_true h1) s1 s2).le fun v σ H Q ⟨ι, env, ah, x, rh, rs, hx, hp⟩ => ?_
      simp only [evG] at hp
      exact hp ι H _ .refl rh ⟨rs.set hx, by simp, fun j hj => List.getElem?_set_ne (fun z => hj (by simp [Tg.slots, z]))⟩
    · cases h
  | .tup ts, S, B, X, W, e, h, g, tk => by
    simp only [okG] at h
    split at h
    · rename_i xs _ _
      have q := sGs F ts h g tk
      refine (pg_tup g.gd.calm q.1 q.2.1 q.2.2).le fun v σ H Q ⟨ι, env, ah, x, rh, rs, hx, hp⟩ => ?_
      simp only [evG] at hp
      split at hp
      · rename_i ds
        obtain ⟨a, vs, rfl, w1, w2⟩ := hx
        split at hp
        · rename_i hl
          refine ⟨a, vs, rfl, by rw [g.gd.K]; exact w1, ?_, ι, env, ah, ds, rh, rs, w2, hp⟩
          rw [DVs.len w2, hl, okGs_len h]
        · exact hp.elim
      · exact hp.elim
    · cases h
  | .sub o i, S, B, X, W, e, h, g, tk => by
    simp only [okG] at h
    split at h
    · rename_i y z pos
      obtain ⟨h1, h2⟩ := b2 h
      obtain ⟨h2, h3⟩ := b2 h2
      refine (pg_sub (sE F o h2 g tk).1 (sE F i h3 g tk).1 (snd_set g.gd) (fun v => by cases z <;> first | rfl | cases h1)).le fun v σ H Q ⟨ι, env, ah, x, rh, rs, hx, hp⟩ => ?_
      simp only [evG] at hp
      have hp' : Pst G (rEnS G [] σ) ι H _ Q (xk W σ) := hp.mono (fun _ _ q => q) fun _ _ _ q => q σ
      refine ⟨ι, env, ah, rh, rs, hp'.step (rel := rD G) fun d1 h1 ι1 H1 x1 e1 rh1 v1 hp1 => ⟨ι1, env, h1, rh1, rs.ext e1, hp1.step (rel := rD G) fun d2 h2 ι2 H2 x2 e2 rh2 v2 hp2 => ?_⟩⟩
      have e12 := e1.trans e2
      refine ⟨ι2, h2, d1, d2, x, xk W σ, rh2, DV.ext e2 _ _ v1, v2, DV.ext e12 _ _ hx, hp2.step (rel := rX Unit) fun u h3 ι3 H3 u' e3 rh3 v3 hp3 => ?_⟩
      exact hp3 ι3 H3 σ .refl rh3 ⟨(rs.ext e12).ext e3, rfl, fun _ _ => rfl⟩
    · cases h
theorem sGs (F : Fa G T P k) : ∀ (c : Tgs) {S B : Scope} {X : Cx} {W : WX} {xs : List Expr}, okGs T N S B c xs = true → Gd2 G S B N k X → Takes X W →
    PGs X xs (rdGs G (evC P k) W c) ∧ (assignEach xs X.env).length = xs.length ∧ (assignEach xs X.env).findIdx? (·.1) = none
  | .nil, S, B, X, W, xs, h, g, tk => by
    cases xs with
    | cons _ _ => cases h
    | nil =>
      refine ⟨pgs_nil.le fun vs σ H Q ⟨ι, env, ah, ds, rh, rs, hv, hp⟩ => ?_, rfl, rfl⟩
      simp only [evGs] at hp
      split at hp
      · exact ⟨hv, hp ι H σ .refl rh ⟨rs, rfl, fun _ _ => rfl⟩⟩
      · exact hp.elim
  | .cons t ts, S, B, X, W, xs, h, g, tk => by
    cases xs with
    | nil => simp [okGs] at h
    | cons y r =>
      simp only [okGs] at h
      obtain ⟨h1, h2⟩ := b2 h
      obtain ⟨h2, h3⟩ := b2 h2
      have q := sGs F ts h3 g tk
      have ea : assignEach (y :: r) X.env = (false, assign y X.env) :: assignEach r X.env := by
        cases y <;> first | rfl | cases h1
      refine ⟨(pgs_cons (sG F t h2 g tk) q.1 (by rw [ea]; rfl)).le fun vs σ H Q ⟨ι, env, ah, ds, rh, rs, hv, hp⟩ => ?_, by rw [ea, List.length_cons, List.length_cons, q.2.1], by rw [ea, List.findIdx?_cons, q.2.2]; rfl⟩
      simp only [evGs] at hp
      split at hp
      · rename_i x xs'
        obtain ⟨v, vr, rfl, w1, w2⟩ := hv
        refine ⟨v, vr, rfl, ι, env, ah, x, rh, rs, w1, ?_⟩
        refine hp.step (rel := rEnS G t.slots σ) fun env1 h1 ι1 H1 σ1 e1 rh1 v1 hp1 => ⟨ι1, env1, h1, xs', rh1, v1.1, DVs.ext e1 _ _ w2, ?_⟩
        have hs := v1.2
        cases q2 : evGs (evC P k) ts xs' env1 h1 with
        | ok env2 h2 =>
          rw [q2] at hp1
          exact fun ι2 H2 σ2 e2 rh2 rl => hp1 ι2 H2 σ2 e2 rh2 ⟨rl.1, rl.2.1.trans hs.1, fun j hj => by
            simp only [Tgs.slots, List.mem_append, not_or] at hj
            rw [rl.2.2 j hj.2, hs.2 j hj.1]⟩
        | exc c v h2 => rw [q2] at hp1; exact hp1
        | bad => rw [q2] at hp1; exact hp1
      · exact hp.elim
end
end
end RV
set_option Elab.async false
set_option linter.all false
set_option maxRecDepth 100000
set_option autoImplicit false
set_option maxHeartbeats 4000000
/-! Part 8: statements. -/
namespace RV
open PySem PySem.Spec PyProof.Rows L2

/-! ### how CPython stores: looked up over a scope alone -/
def dEnv (S : Scope) : PySem.Env := { scope := S, locals := 0, globals := 0, cells := [] }
def pureOf {α : Type} : Sem α → Option α
  | .pure a => some a
  | _ => none
theorem pureOf_ok {α : Type} {t : Sem α} {a : α} (h : pureOf t = some a) : t = pure a := by
  cases t <;> simp [pureOf] at h
  rw [h]
  rfl
def swB (S : Scope) (e : Expr) (t : Option Expr) (l : Nat) : Option Bool := pureOf (swapsWith e t l (dEnv S))
def swK (S : Scope) (ts : List Expr) (e : Expr) : Option (Option (List Str)) := pureOf (swappedStores ts e (dEnv S))
theorem swB_eq {S : Scope} {e : Expr} {t : Option Expr} {l : Nat} {env : PySem.Env} (h : env.scope = S) : swapsWith e t l env = swapsWith e t l (dEnv S) := by
  obtain ⟨sc, _⟩ := env
  cases h
  rfl
theorem swK_eq {S : Scope} {e : Expr} {ts : List Expr} {env : PySem.Env} (h : env.scope = S) : swappedStores ts e env = swappedStores ts e (dEnv S) := by
  obtain ⟨sc, _⟩ := env
  cases h
  rfl
theorem swB_ok {S : Scope} {e : Expr} {t : Option Expr} {l : Nat} {env : PySem.Env} {b : Bool} (h : env.scope = S) (hb : swB S e t l = some b) : swapsWith e t l env = pure b := by
  rw [swB_eq h]
  exact pureOf_ok hb
theorem swK_ok {S : Scope} {e : Expr} {ts : List Expr} {env : PySem.Env} {b : Option (List Str)} (h : env.scope = S) (hb : swK S ts e = some b) : swappedStores ts e env = pure b := by
  rw [swK_eq h]
  exact pureOf_ok hb
def isLoc (S : Scope) (x : Str) : Bool := decide (S.names.lookup x = some .local)
/-- a, b = .. of plain names -/
def parB (N : List Str) (S : Scope) (t : Tg) (e : CE) (tg v : Expr) : Bool := match t, e, tg, v with
  | .tup (.cons (.name i) (.cons (.name j) .nil)), .tup (.cons _ (.cons _ .nil)), .Tuple [.Name x _, .Name y _] _ _, .Tuple [_, _] _ _ =>
    decide (swK S [tg] v = some (some [x, y])) && (decide (i ≠ j) && (decide (N[i]? = some x) && (decide (N[j]? = some y) && (isLoc S x && isLoc S y))))
  | _, _, _, _ => false
/-- a, b, c = .. of plain names -/
def par3B (N : List Str) (S : Scope) (t : Tg) (e : CE) (tg v : Expr) : Bool := match t, e, tg, v with
  | .tup (.cons (.name i) (.cons (.name j) (.cons (.name l) .nil))), .tup (.cons _ (.cons _ (.cons _ .nil))), .Tuple [.Name x _, .Name y _, .Name z _] _ _, .Tuple [_, _, _] _ _ =>
    decide (swK S [tg] v = some (some [x, y, z])) && (decide (i ≠ j ∧ i ≠ l ∧ j ≠ l) && (decide (N[i]? = some x) && (decide (N[j]? = some y) && (decide (N[l]? = some z) && (isLoc S x && (isLoc S y && isLoc S z))))))
  | _, _, _, _ => false
/-- x = [..] on one line -/
def lcB (N : List Str) (S : Scope) (t : Tg) (e : CE) (tg v : Expr) (line : Nat) : Bool := match t, e, tg, v with
  | .name i, .alloc (.lc _ _ _ _ _), .Name x _, .ListComp .. => decide (swB S v (some tg) line = some true) && (isLoc S x && decide (N[i]? = some x))
  | _, _, _, _ => false
def asB (T : Tab) (N : List Str) (S : Scope) (t : Tg) (e : CE) (tg v : Expr) (line : Nat) : Bool :=
  okG T N S S t tg && (okE T N S S e v && (unstar tg && ((decide (swB S v (some tg) line = some false) && (decide (swK S [tg] v = some none) || (parB N S t e tg v || par3B N S t e tg v))) || lcB N S t e tg v line)))
mutual
def okS (T : Tab) (N : List Str) (S : Scope) : CS → Stmt → Bool
  | .asg t e, st => (match st with
    | .Assign [tg] v pos => asB T N S t e tg v pos.line
    | _ => false)
  | .aug i o e, st => (match st with
    | .AugAssign (.Name x _) p v _ => decide (o = p) && (decide (N[i]? = some x) && (locB S x && okE T N S S e v))
    | _ => false)
  | .expr e, st => (match st with
    | .Expr v pos => decide (swB S v none pos.line = some false) && okE T N S S e v
    | _ => false)
  | .ret e, st => (match st with
    | .Return (some v) _ => okE T N S S e v
    | _ => false)
  | .retN, st => (match st with
    | .Return none _ => true
    | _ => false)
  | .ifs t a b, st => (match st with
    | .If c x y _ => okE T N S S t c && (okSs T N S a x && okSs T N S b y)
    | _ => false)
  | .whil t b, st => (match st with
    | .While c x [] _ => okE T N S S t c && okSs T N S b x
    | _ => false)
  | .forr t it b, st => (match st with
    | .For tg i x [] _ => unset i && (okG T N S S t tg && (okI T N S S it i && okSs T N S b x))
    | _ => false)
  | .pass, st => (match st with
    | .Pass _ => true
    | _ => false)
  | .brk, st => (match st with
    | .Break _ => true
    | _ => false)
  | .cnt, st => (match st with
    | .Continue _ => true
    | _ => false)
  | .never, _ => true
def okSs (T : Tab) (N : List Str) (S : Scope) : CSs → List Stmt → Bool
  | .nil, xs => xs.isEmpty
  | .cons s ss, xs => (match xs with
    | x :: r => okS T N S s x && okSs T N S ss r
    | _ => false)
end
section
variable (G : Wd) (call : Call) (W : WX)
def rdS (c : CS) : TS := fun D σ H => ∃ ι env ah, RH G ι ah H ∧ RS G ι H env σ ∧ Pst G (rF G) ι H (evS call c env ah) (Out.want D) (xall W)
def rdSs (c : CSs) : TS := fun D σ H => ∃ ι env ah, RH G ι ah H ∧ RS G ι H env σ ∧ Pst G (rF G) ι H (evSs call c env ah) (Out.want D) (xall W)
end
section
variable {α β γ δ : Type} {G : Wd} {rel : Rl α β} {rel2 : Rl γ δ} {ι ι1 : List Addr} {H H1 : Hp} {r : R α} {Q : β → Hp → Prop} {E E2 : XK}
theorem Pst.stepE {f : α → AH → R γ} {Q2 : δ → Hp → Prop} (h : Pst G rel2 ι H (r.bind f) Q2 E2) (ke : ∀ c d H, E2 c d H → E c d H) (k : ∀ a h1 ι1 H1 b, Ext ι H ι1 H1 → RH G ι1 h1 H1 → rel.r ι H ι1 H1 a b → Pst G rel2 ι1 H1 (f a h1) Q2 E2 → Q b H1) : Pst G rel ι H r Q E := by
  cases r with
  | ok a h' => exact fun ι' H' b e' rh rl => k a h' ι' H' b e' rh rl (Pst.shift (show Pst G rel2 ι H (f a h') Q2 E2 from h) e')
  | exc c v h' => exact fun ι' H' dx vv e1 e2 e3 e4 => ke _ _ _ (h ι' H' dx vv e1 e2 e3 e4)
  | bad => exact h
end
/-- a, b, c = x, y, z with plain local names -/
def tPar3 (i j l : Nat) (ta : TA) : TS := fun D σ H => ta σ H fun vs H1 => ∃ u v w, vs = [u, v, w] ∧ D.nx (((σ.set i (some u)).set j (some v)).set l (some w)) H1
theorem ps_par3 {X : Cx} {i j l : Nat} {x y z : Str} {a b c : Expr} {ta : TA} {px py pz pt pos : Pos} {kt k2 pt2} (hc : X.calm = true) (hN : X.N.Nodup) (hi : X.N[i]? = some x) (hj : X.N[j]? = some y) (hl : X.N[l]? = some z) (hij : i ≠ j ∧ i ≠ l ∧ j ≠ l)
    (hx : X.env.scope.names.lookup x = some .local) (hy : X.env.scope.names.lookup y = some .local) (hz : X.env.scope.names.lookup z = some .local) (ha : PA X [a, b, c] ta)
    (hw : swappedStores [.Tuple [.Name x px, .Name y py, .Name z pz] kt pt] (.Tuple [a, b, c] k2 pt2) X.env = pure (some [x, y, z]))
    (hs : swapsWithSole [.Tuple [.Name x px, .Name y py, .Name z pz] kt pt] (.Tuple [a, b, c] k2 pt2) pos.line X.env = pure false) :
    PS X (.Assign [.Tuple [.Name x px, .Name y py, .Name z pz] kt pt] (.Tuple [a, b, c] k2 pt2) pos) (tPar3 i j l ta) := by
  refine ⟨fun pins s σ H D I h => ?_⟩
  rw [exec_Assign_arm]
  refine wpAny_bind (wpAny_standAt ?_)
  rw [hs]
  refine wpAny_bind (wpAny_pure ?_)
  rw [if_neg (by decide)]
  refine wpAny_bind (Tuple_ (thn (ha.run _ pins s σ H _ I h) fun us s1 ⟨vs, H1, I1, r1, q1⟩ => ?_))
  obtain ⟨v1, v2, v3, e1, q1⟩ := q1
  subst e1
  obtain ⟨u1, u2, u3, rfl, r1, r2, r3⟩ : ∃ u1 u2 u3, us = [u1, u2, u3] ∧ RelV v1 u1 ∧ RelV v2 u2 ∧ RelV v3 u3 := by
    cases r1 with
    | cons p q => cases q with
      | cons p' q' => cases q' with
        | cons p'' q'' =>
          cases q''
          exact ⟨_, _, _, rfl, p, p', p''⟩
  refine wpAny_newObj_type ?_ (by show 3 ≤ sizeLine; decide)
  have I2 : Inv X pins σ H1 { s1 with heap := s1.heap.push { cls := .type "tuple", data := .seq [u1, u2, u3].toArray } } := I1.kept (t' := s1.toks) fun b o e => Heap.get?_push_of_some _ e
  rw [hw]
  refine wpAny_bind (wpAny_pure ?_)
  show wpAny (model X.prog X.w) X.A (do rule "assign.swapped-stores"; let items ← unpackItems (.ref s1.heap.objs.size) 3 none; assignInOrder [fun v => bindName X.env z v, fun v => bindName X.env y v, fun v => bindName X.env x v] items.reverse; pure Flow.next) _ _ _
  refine wpAny_bind (wpAny_rule (wpAny_bind (unpackItems_tuple (items := #[u1, u2, u3]) (I.ok.hd hc) (IsTup.new s1.heap _) fun h' hx' => ?_)))
  have I3 := I2.kept (h' := h') (t' := s1.toks) fun b o e => hx' b o (Nat.ne_of_lt (Heap.lt_size e)) e
  show wpAny _ _ (assignInOrder [fun v => bindName X.env z v, fun v => bindName X.env y v, fun v => bindName X.env x v] [u3, u2, u1] >>= fun _ => pure Flow.next) _ _ _
  refine wpAny_bind (assignInOrder_cons (wpAny_bindName (store_ok I3 hN hl (.inl hz) r3 (fun s2 I4 => ?_) (.inr hz))))
  refine assignInOrder_cons (wpAny_bindName (store_ok I4 hN hj (.inl hy) r2 (fun s3 I5 => ?_) (.inr hy)))
  refine assignInOrder_cons (wpAny_bindName (store_ok I5 hN hi (.inl hx) r1 (fun s4 I6 => assignInOrder_nil (wpAny_pure ?_)) (.inr hx)))
  rw [List.set_comm _ _ hij.1.symm, List.set_comm _ _ hij.2.1.symm, List.set_comm _ _ hij.2.2.symm] at I6 <;> first | exact ⟨_, H1, I6, q1⟩ | skip
section
variable {G : Wd} {T : Tab} {P : List Fn} {N : List Str} {k : Nat}
theorem alloc_le {call : Call} {W : WX} {t : CT} {σ : L2.St} {H : Hp} {Q : VK} (z : rdE G call W (.alloc t) σ H Q) : rdT G call W t σ H Q := by
  obtain ⟨ι, env, ah, rh, rs, hp⟩ := z
  simp only [evE] at hp
  refine ⟨ι, env, ah, rh, rs, ?_⟩
  cases q : evT call t env ah with
  | bad => rw [q] at hp; exact hp.elim
  | exc c v h1 => rw [q] at hp; exact hp
  | ok ds h1 =>
    rw [q, R.bind_ok] at hp
    intro ι1 H1 v e1 rh1 ⟨a, vs, ev, v1, v2, v3, v4⟩
    subst ev
    refine hp (ι1 ++ [a]) H1 (.ref a) ⟨e1.pre.trans (List.prefix_append _ _), fun b hb => ?_, e1.keep, e1.fix⟩ (rh1.adopt v1 v2 v4) ⟨a, by rw [← rh1.len, List.getElem?_append_right (Nat.le_refl _), Nat.sub_self]; rfl, rfl⟩
    rcases List.mem_append.mp hb with z | z
    · exact e1.new b z
    · exact .inr (by rw [List.mem_singleton.mp z]; exact v3)
theorem lc_le {call : Call} {W : WX} {own : List Nat} {tg : Tg} {it : CI} {ifs : CO} {el : CE} {σ : L2.St} {H : Hp} {Q : VK} (hs : ∀ j ∈ tg.slots, j ∈ own) (z : rdT G call W (.lc own tg it ifs el) σ H Q) :
    tLc (rdI G call W it) (rdG G call NoW tg) (rdFs G call NoW ifs) (rdE G call NoW el) ((okBlk N own).map (·.2)) σ H Q := by
  obtain ⟨ι, env, ah, rh, rs, hp⟩ := z
  rw [okBlk_snd]
  simp only [evT] at hp
  refine ⟨ι, env, ah, rh, rs, ?_⟩
  refine Pst.step (rel := RV.rI G) ?_ fun src h1 ι1 H1 J e1 rh1 y1 hp1 D hD => comp_turns y1 rh1 (rs.ext e1) hs hp1 D hD
  exact hp
theorem isLoc_ok {S : Scope} {x : Str} (h : isLoc S x = true) : S.names.lookup x = some .local := of_decide_eq_true h
/-- what a statement wants, with another way on -/
theorem want_nx {D : Ends} {u : L2.St → Hp → Prop} {o : Out} {H : Hp} (h : ∀ σ, o = .nx σ → u σ H) (h' : (∀ σ, o ≠ .nx σ) → Out.want D o H) : Out.want { D with nx := u } o H := by
  cases o with
  | nx σ => exact h σ rfl
  | rt v => exact h' fun _ => by intro e; cases e
  | bk v => exact h' fun _ => by intro e; cases e
  | ct v => exact h' fun _ => by intro e; cases e
theorem as_gen (F : Fa G T P k) {t : Tg} {e : CE} {S : Scope} {X : Cx} {W : WX} {tg v : Expr} {pos : Pos} (hg : okG T N S S t tg = true) (he : okE T N S S e v = true) (hu : unstar tg = true)
    (hb : swB S v (some tg) pos.line = some false) (hk : swK S [tg] v = some none) (g : Gd2 G S S N k X) (tk : Takes X W) : PS X (.Assign [tg] v pos) (rdS G (evC P k) W (.asg t e)) := by
  refine (ps_asg (sE F e he g tk).1 (sG F t hg g tk) (swB_ok g.gd.sc hb) (swK_ok g.gd.sc hk) (by cases tg <;> first | rfl | cases hu)).le fun D σ H ⟨ι, env, ah, rh, rs, hp⟩ => ?_
  simp only [evS] at hp
  refine ⟨ι, env, ah, rh, rs, hp.stepE (rel := rD G) (fun _ _ _ z => z σ) fun x h1 ι1 H1 y e1 rh1 v1 hp1 => ⟨ι1, env, h1, x, rh1, rs.ext e1, v1, hp1.step (rel := rEnS G t.slots σ) fun env1 h2 ι2 H2 σ2 e2 rh2 v2 hp2 => ?_⟩⟩
  exact hp2 ι2 H2 (.nx σ2) .refl rh2 v2.1
end
end RV
set_option Elab.async false
set_option linter.all false
set_option maxRecDepth 100000
set_option autoImplicit false
set_option maxHeartbeats 4000000
/-! Part 9: every core statement. -/
namespace RV
open PySem PySem.Spec PyProof.Rows L2
section
variable {G : Wd} {T : Tab} {P : List Fn} {N : List Str} {k : Nat}
theorem as_lc (F : Fa G T P k) {t : Tg} {e : CE} {S : Scope} {X : Cx} {W : WX} {tg v : Expr} {pos : Pos} (he : okE T N S S e v = true) (hb : lcB N S t e tg v pos.line = true) (g : Gd2 G S S N k X) (tk : Takes X W) : PS X (.Assign [tg] v pos) (rdS G (evC P k) W (.asg t e)) := by
  unfold lcB at hb
  split at hb
  · rename_i i own lt it ifs el x px x0 gens sc lpos
    obtain ⟨h1, h2⟩ := b2 hb
    obtain ⟨h2, h3⟩ := b2 h2
    have hyl := of_decide_eq_true h2
    have hi := of_decide_eq_true h3
    have hsw := swB_ok g.gd.sc (of_decide_eq_true h1)
    simp only [okE, okT] at he
    split at he
    · rename_i xx tt ii fs sc' pos'  heq
      cases heq
      obtain ⟨ha, hb⟩ := b2 he
      obtain ⟨a1, ha⟩ := b2 ha
      obtain ⟨a2, a3⟩ := b2 ha
      obtain ⟨a4, hb⟩ := b2 hb
      obtain ⟨a5, hb⟩ := b2 hb
      obtain ⟨a6, a7⟩ := b2 hb
      have bo : BlkOk N S sc (okBlk N own) := blkOk_by a3
      have hs := of_decide_eq_true a5
      have bk := fun s H C cl fp => gd_blk (G := G) (X := X) g.gd bo s H C cl fp
      refine (ps_setLc (i := i) (own := okBlk N own) (g := rdG G (evC P k) NoW lt) (tt := rdFs G (evC P k) NoW ifs) (te := rdE G (evC P k) NoW el) g.gd.calm (by rw [g.gd.names]; exact g.gd.nd) (by rw [g.gd.names]; exact hi) (by rw [g.gd.sc]; exact hyl) hsw
        (sI F it a2 g tk) (by rw [g.gd.names, g.gd.sc]; exact bo)
        (fun s H C cl fp => sG F lt a4 (bk s H C cl fp) takes_no) (fun s H C cl fp => sFs F ifs a7 (bk s H C cl fp) takes_no) (fun s H C cl fp => (sE F el a6 (bk s H C cl fp) takes_no).1) (set_plain a1)).le fun D σ H ⟨ι, env, ah, rh, rs, hp⟩ => ?_
      refine lc_le hs (alloc_le ⟨ι, env, ah, rh, rs, ?_⟩)
      simp only [evS] at hp
      exact hp.stepE (rel := rD G) (fun _ _ _ z => z σ) fun x h1 ι1 H1 y e1 rh1 v1 hp1 => by
        simp only [evG, R.bind_ok] at hp1
        exact hp1 ι1 H1 (.nx _) .refl rh1 ((rs.ext e1).set v1)
    · cases he
  · cases hb
theorem len2 {α : Type} {l : List α} (h : l.length = 2) : ∃ a b, l = [a, b] := by
  cases l with
  | nil => cases h
  | cons a r => cases r with
    | nil => cases h
    | cons b r => cases r with
      | nil => exact ⟨a, b, rfl⟩
      | cons _ _ => simp at h
theorem len3 {α : Type} {l : List α} (h : l.length = 3) : ∃ a b c, l = [a, b, c] := by
  cases l with
  | nil => cases h
  | cons a r =>
    obtain ⟨b, c, rfl⟩ := len2 (l := r) (by simpa using h)
    exact ⟨a, b, c, rfl⟩
theorem as_par (F : Fa G T P k) {t : Tg} {e : CE} {S : Scope} {X : Cx} {W : WX} {tg v : Expr} {pos : Pos} (he : okE T N S S e v = true) (hb : swB S v (some tg) pos.line = some false) (hp0 : parB N S t e tg v = true) (g : Gd2 G S S N k X) (tk : Takes X W) :
    PS X (.Assign [tg] v pos) (rdS G (evC P k) W (.asg t e)) := by
  unfold parB at hp0
  split at hp0
  · rename_i i j ea eb x px y py _ _ a b _ _
    obtain ⟨h1, h0⟩ := b2 hp0
    obtain ⟨h2, h0⟩ := b2 h0
    obtain ⟨h3, h0⟩ := b2 h0
    obtain ⟨h4, h0⟩ := b2 h0
    obtain ⟨h5, h6⟩ := b2 h0
    simp only [okE] at he
    refine (ps_par (i := i) (j := j) g.gd.calm (by rw [g.gd.names]; exact g.gd.nd) (by rw [g.gd.names]; exact of_decide_eq_true h3) (by rw [g.gd.names]; exact of_decide_eq_true h4) (of_decide_eq_true h2) (by rw [g.gd.sc]; exact isLoc_ok h5) (by rw [g.gd.sc]; exact isLoc_ok h6)
      (sEs F (.cons ea (.cons eb .nil)) he g tk) (swK_ok g.gd.sc (of_decide_eq_true h1)) (swB_ok g.gd.sc hb)).le fun D σ H ⟨ι, env, ah, rh, rs, hp⟩ => ?_
    simp only [evS] at hp
    rw [show evE (evC P k) (.tup (.cons ea (.cons eb .nil))) env ah = (evEs (evC P k) (.cons ea (.cons eb .nil)) env ah).bind fun ds h1 => if ds.length ≤ SZ then .ok (.tup ds) h1 else .bad from by simp only [evE], R.bind_assoc] at hp
    refine ⟨ι, env, ah, rh, rs, hp.stepE (rel := rDs G) (fun _ _ _ z => z σ) fun ds h1 ι1 H1 vs e1 rh1 v1 hp1 => ?_⟩
    split at hp1
    · simp only [R.bind_ok, evG] at hp1
      split at hp1
      · rename_i hl
        obtain ⟨d1, d2, rfl⟩ := len2 hl
        obtain ⟨w1, r1, rfl, q1, w2, r2, rfl, q2, rfl⟩ := v1
        simp only [evGs, evG, R.bind_ok] at hp1
        exact ⟨w1, w2, rfl, hp1 ι1 H1 (.nx _) .refl rh1 (((rs.ext e1).set q1).set q2)⟩
      · exact hp1.elim
    · exact hp1.elim
  · cases hp0
theorem as_par3 (F : Fa G T P k) {t : Tg} {e : CE} {S : Scope} {X : Cx} {W : WX} {tg v : Expr} {pos : Pos} (he : okE T N S S e v = true) (hb : swB S v (some tg) pos.line = some false) (hp0 : par3B N S t e tg v = true) (g : Gd2 G S S N k X) (tk : Takes X W) :
    PS X (.Assign [tg] v pos) (rdS G (evC P k) W (.asg t e)) := by
  unfold par3B at hp0
  split at hp0
  · rename_i i j l ea eb ec x px y py z pz _ _ a b c _ _
    obtain ⟨h1, h0⟩ := b2 hp0
    obtain ⟨h2, h0⟩ := b2 h0
    obtain ⟨h3, h0⟩ := b2 h0
    obtain ⟨h4, h0⟩ := b2 h0
    obtain ⟨h5, h0⟩ := b2 h0
    obtain ⟨h6, h0⟩ := b2 h0
    obtain ⟨h7, h8⟩ := b2 h0
    simp only [okE] at he
    refine (ps_par3 (i := i) (j := j) (l := l) g.gd.calm (by rw [g.gd.names]; exact g.gd.nd) (by rw [g.gd.names]; exact of_decide_eq_true h3) (by rw [g.gd.names]; exact of_decide_eq_true h4) (by rw [g.gd.names]; exact of_decide_eq_true h5) (of_decide_eq_true h2) (by rw [g.gd.sc]; exact isLoc_ok h6) (by rw [g.gd.sc]; exact isLoc_ok h7) (by rw [g.gd.sc]; exact isLoc_ok h8)
      (sEs F (.cons ea (.cons eb (.cons ec .nil))) he g tk) (swK_ok g.gd.sc (of_decide_eq_true h1)) (swB_ok g.gd.sc hb)).le fun D σ H ⟨ι, env, ah, rh, rs, hp⟩ => ?_
    simp only [evS] at hp
    rw [show evE (evC P k) (.tup (.cons ea (.cons eb (.cons ec .nil)))) env ah = (evEs (evC P k) (.cons ea (.cons eb (.cons ec .nil))) env ah).bind fun ds h1 => if ds.length ≤ SZ then .ok (.tup ds) h1 else .bad from by simp only [evE], R.bind_assoc] at hp
    refine ⟨ι, env, ah, rh, rs, hp.stepE (rel := rDs G) (fun _ _ _ z => z σ) fun ds h1 ι1 H1 vs e1 rh1 v1 hp1 => ?_⟩
    split at hp1
    · simp only [R.bind_ok, evG] at hp1
      split at hp1
      · rename_i hl
        obtain ⟨d1, d2, d3, rfl⟩ := len3 hl
        obtain ⟨w1, r1, rfl, q1, w2, r2, rfl, q2, w3, r3, rfl, q3, rfl⟩ := v1
        simp only [evGs, evG, R.bind_ok] at hp1
        exact ⟨w1, w2, w3, rfl, hp1 ι1 H1 (.nx _) .refl rh1 ((((rs.ext e1).set q1).set q2).set q3)⟩
      · exact hp1.elim
    · exact hp1.elim
  · cases hp0
end
section
variable {G : Wd} {W : WX}
/-- a while's turns -/
theorem while_turns {call : Call} {t : CE} {b : CSs} {ι : List Addr} {env : En} {ah : AH} {σ : L2.St} {H : Hp} {D : Ends} (rh : RH G ι ah H) (rs : RS G ι H env σ) (hp : Pst G (rF G) ι H (evWhile (evB call t) (evSs call b) FUEL env ah) (Out.want D) (xall W)) :
    tWhile (rdB G call W t) (rdSs G call W b) D σ H := by
  refine ⟨fun m σ H => ∃ ι env ah, RH G ι ah H ∧ RS G ι H env σ ∧ Pst G (rF G) ι H (evWhile (evB call t) (evSs call b) m env ah) (Out.want D) (xall W), ⟨FUEL, ι, env, ah, rh, rs, hp⟩, ?_⟩
  rintro m σ H ⟨ι, env, ah, rh, rs, hp⟩
  cases m with
  | zero => exact hp.elim
  | succ m =>
    simp only [evWhile] at hp
    refine ⟨ι, env, ah, rh, rs, hp.stepE (rel := rX Bool) (fun _ _ _ z => z σ) fun c h1 ι1 H1 c' e1 rh1 v1 hp1 => ?_⟩
    have v1' : c = c' := v1
    subst v1'
    cases c with
    | false =>
      exact hp1 ι1 H1 (.nx σ) .refl rh1 (rs.ext e1)
    | true =>
      simp only [if_true] at hp1 ⊢
      refine ⟨fun σ' H' => ∃ ι env ah, RH G ι ah H' ∧ RS G ι H' env σ' ∧ Pst G (rF G) ι H' (evWhile (evB call t) (evSs call b) m env ah) (Out.want D) (xall W), fun σ' H' z => ⟨m, Nat.lt_succ_self m, z⟩, ι1, env, h1, rh1, rs.ext e1, ?_⟩
      refine hp1.step (rel := rF G) fun f h2 ι2 H2 o e2 rh2 v2 hp2 => ?_
      cases f with
      | nx e =>
        cases o with
        | nx σ2 => exact ⟨ι2, e, h2, rh2, v2, hp2⟩
        | _ => exact v2.elim
      | ct e =>
        cases o with
        | ct σ2 => exact ⟨ι2, e, h2, rh2, v2, hp2⟩
        | _ => exact v2.elim
      | bk e =>
        cases o with
        | bk σ2 => exact hp2 ι2 H2 (.nx σ2) .refl rh2 v2
        | _ => exact v2.elim
      | rt d =>
        cases o with
        | rt v => exact hp2 ι2 H2 (.rt v) .refl rh2 v2
        | _ => exact v2.elim
/-- a for's turns -/
theorem for_turns {call : Call} {t : Tg} {b : CSs} {ι : List Addr} {env : En} {ah : AH} {σ : L2.St} {H : Hp} {D : Ends} {src : List RV.D × List (Nat × Cell)} {J : It} (y : Yields G ι H J src) (rh : RH G ι ah H) (rs : RS G ι H env σ)
    (hp : Pst G (rF G) ι H (evLoop (evG call t) (evSs call b) src.2 src.1 env ah) (Out.want D) (xall W)) :
    ∃ Wn : Nat → Nat → L2.St → Hp → Prop, (∃ m, Wn 0 m σ H) ∧ ∀ i m σ H, Wn i m σ H →
      (J.stop i H ∧ D.nx σ H) ∨ (J.go i H ∧ ∃ Nx : L2.St → Hp → Prop, (∀ σ' H', Nx σ' H' → ∃ m', m' < m ∧ Wn (i + 1) m' σ' H') ∧ ∀ x H', J.yld i H x H' → rdG G call W t x σ H' fun σ2 H2 => rdSs G call W b { D with nx := Nx, ct := Nx, bk := D.nx } σ2 H2) := by
  refine ⟨fun i m σ' H' => m = src.1.length - i ∧ i ≤ src.1.length ∧ ∃ ι1 env ah, Ext ι H ι1 H' ∧ RH G ι1 ah H' ∧ RS G ι1 H' env σ' ∧ Pst G (rF G) ι1 H' (evLoop (evG call t) (evSs call b) src.2 (src.1.drop i) env ah) (Out.want D) (xall W),
    ⟨_, rfl, Nat.zero_le _, ι, env, ah, .refl, rh, rs, hp⟩, ?_⟩
  rintro i m σ H ⟨rfl, hi, ι1, env, ah, e1, rh, rs, hp⟩
  have y1 := y ι1 ah H e1 rh
  by_cases hlt : i < src.1.length
  · right
    have ed : src.1.drop i = src.1[i] :: src.1.drop (i + 1) := List.drop_eq_getElem_cons hlt
    rw [ed] at hp
    simp only [evLoop] at hp
    split at hp
    · rename_i hdep
      obtain ⟨go, yl⟩ := (y1 hdep).1 i src.1[i] (List.getElem?_eq_getElem hlt)
      refine ⟨go, fun σ' H' => ∃ ι2 env ah, Ext ι1 H ι2 H' ∧ RH G ι2 ah H' ∧ RS G ι2 H' env σ' ∧ Pst G (rF G) ι2 H' (evLoop (evG call t) (evSs call b) src.2 (src.1.drop (i + 1)) env ah) (Out.want D) (xall W), ?_, ?_⟩
      · rintro σ' H' ⟨ι2, env2, ah2, q1, q2, q3, q4⟩
        exact ⟨_, by omega, rfl, hlt, ι2, env2, ah2, e1.trans q1, q2, q3, q4⟩
      · intro x H' hy
        obtain ⟨e2, r2, dv⟩ := yl x H' hy
        refine ⟨ι1, env, ah, src.1[i], r2, rs.ext e2, dv, (hp.shift e2).step (rel := rEnS G t.slots σ) fun env1 h1 ι3 H3 σ3 e3 rh3 v3 hp3 => ⟨ι3, env1, h1, rh3, v3.1, ?_⟩⟩
        have e23 := e2.trans e3
        refine hp3.step (rel := rF G) fun f h4 ι4 H4 o e4 rh4 v4 hp4 => ?_
        have e24 := e23.trans e4
        cases f with
        | nx e =>
          cases o with
          | nx σ4 => exact ⟨ι4, e, h4, e24, rh4, v4, hp4⟩
          | _ => exact v4.elim
        | ct e =>
          cases o with
          | ct σ4 => exact ⟨ι4, e, h4, e24, rh4, v4, hp4⟩
          | _ => exact v4.elim
        | bk e =>
          cases o with
          | bk σ4 => exact hp4 ι4 H4 (.nx σ4) .refl rh4 v4
          | _ => exact v4.elim
        | rt d =>
          cases o with
          | rt v => exact hp4 ι4 H4 (.rt v) .refl rh4 v4
          | _ => exact v4.elim
    · exact hp.elim
  · left
    have ei : i = src.1.length := by omega
    subst ei
    rw [List.drop_length] at hp
    simp only [evLoop] at hp
    split at hp
    · rename_i hdep
      exact ⟨(y1 hdep).2 _ (Nat.le_refl _), hp ι1 H (.nx σ) .refl rh rs⟩
    · exact hp.elim
end
section
variable {G : Wd} {T : Tab} {P : List Fn} {N : List Str} {k : Nat}
mutual
theorem sS (F : Fa G T P k) : ∀ (c : CS) {S : Scope} {X : Cx} {W : WX} {st : Stmt}, okS T N S c st = true → Gd2 G S S N k X → Takes X W → PassesOwn (model X.prog X.w) X.A X.env X.xe → PS X st (rdS G (evC P k) W c)
  | .asg t e, S, X, W, st, h, g, tk, po => by
    simp only [okS] at h
    split at h
    · rename_i tg v pos
      unfold asB at h
      obtain ⟨h1, h⟩ := b2 h
      obtain ⟨h2, h⟩ := b2 h
      obtain ⟨h3, h4⟩ := b2 h
      rcases Bool.or_eq_true_iff.mp h4 with h4 | h4
      · obtain ⟨h5, h6⟩ := b2 h4
        have hb := of_decide_eq_true h5
        rcases Bool.or_eq_true_iff.mp h6 with h6 | h6
        · exact as_gen F h1 h2 h3 hb (of_decide_eq_true h6) g tk
        · rcases Bool.or_eq_true_iff.mp h6 with h6 | h6
          · exact as_par F h2 hb h6 g tk
          · exact as_par3 F h2 hb h6 g tk
      · exact as_lc F h2 h4 g tk
    · cases h
  | .aug i o e, S, X, W, st, h, g, tk, po => by
    simp only [okS] at h
    split at h
    · rename_i x px p v pos
      obtain ⟨h1, h⟩ := b2 h
      obtain ⟨h2, h⟩ := b2 h
      obtain ⟨h3, h4⟩ := b2 h
      have eo := of_decide_eq_true h1
      subst eo
      obtain ⟨s1, s2⟩ := g.st _ (loc_ok h3)
      refine (ps_aug (i := i) (by rw [g.gd.names]; exact g.gd.nd) (by rw [g.gd.names]; exact of_decide_eq_true h2) s1 (sE F e h4 g tk).1 (snd_iop g.gd o) s2).le fun D σ H ⟨ι, env, ah, rh, rs, hp⟩ => ?_
      simp only [evS, var] at hp
      split at hp
      · rename_i d hd
        obtain ⟨x0, q1, q2⟩ := rs.at_ i d hd
        rw [R.bind_ok] at hp
        refine ⟨x0, q1, ι, env, ah, rh, rs, hp.stepE (rel := rD G) (fun _ _ _ z => z σ) fun y h1 ι1 H1 v1 e1 rh1 w1 hp1 => ?_⟩
        split at hp1
        · rename_i hio
          exact ⟨ι1, h1, d, y, xall W, rh1, DV.ext e1 _ _ q2, w1, hio, hp1.step (rel := rD G) fun z h2 ι2 H2 v2 e2 rh2 w2 hp2 => hp2 ι2 H2 (.nx _) .refl rh2 (((rs.ext e1).ext e2).set w2)⟩
        · exact hp1.elim
      · exact hp.elim
    · cases h
  | .expr e, S, X, W, st, h, g, tk, po => by
    simp only [okS] at h
    split at h
    · obtain ⟨h1, h2⟩ := b2 h
      refine (ps_expr (sE F e h2 g tk).1 (swB_ok g.gd.sc (of_decide_eq_true h1))).le fun D σ H ⟨ι, env, ah, rh, rs, hp⟩ => ?_
      simp only [evS] at hp
      exact ⟨ι, env, ah, rh, rs, hp.stepE (rel := rD G) (fun _ _ _ z => z σ) fun y h1 ι1 H1 v1 e1 rh1 w1 hp1 => hp1 ι1 H1 (.nx σ) .refl rh1 (rs.ext e1)⟩
    · cases h
  | .ret e, S, X, W, st, h, g, tk, po => by
    simp only [okS] at h
    split at h
    · refine (ps_ret (sE F e h g tk).1).le fun D σ H ⟨ι, env, ah, rh, rs, hp⟩ => ?_
      simp only [evS] at hp
      exact ⟨ι, env, ah, rh, rs, hp.stepE (rel := rD G) (fun _ _ _ z => z σ) fun y h1 ι1 H1 v1 e1 rh1 w1 hp1 => hp1 ι1 H1 (.rt v1) .refl rh1 w1⟩
    · cases h
  | .retN, S, X, W, st, h, g, tk, po => by
    simp only [okS] at h
    split at h
    · refine ps_retN.le fun D σ H ⟨ι, env, ah, rh, rs, hp⟩ => ?_
      simp only [evS] at hp
      exact hp ι H (.rt .non) .refl rh rfl
    · cases h
  | .ifs t a b, S, X, W, st, h, g, tk, po => by
    simp only [okS] at h
    split at h
    · obtain ⟨h1, h⟩ := b2 h
      obtain ⟨h2, h3⟩ := b2 h
      refine (ps_if (sE F t h1 g tk).2.1 (sSs F a h2 g tk po) (sSs F b h3 g tk po)).le fun D σ H ⟨ι, env, ah, rh, rs, hp⟩ => ?_
      simp only [evS] at hp
      refine ⟨ι, env, ah, rh, rs, hp.stepE (rel := rX Bool) (fun _ _ _ z => z σ) fun c h1 ι1 H1 c' e1 rh1 v1 hp1 => ?_⟩
      have v1' : c = c' := v1
      subst v1'
      cases c with
      | true => exact ⟨ι1, env, h1, rh1, rs.ext e1, hp1⟩
      | false => exact ⟨ι1, env, h1, rh1, rs.ext e1, hp1⟩
    · cases h
  | .whil t b, S, X, W, st, h, g, tk, po => by
    simp only [okS] at h
    split at h
    · obtain ⟨h1, h2⟩ := b2 h
      refine (ps_while po (sE F t h1 g tk).2.1 (sSs F b h2 g tk po)).le fun D σ H ⟨ι, env, ah, rh, rs, hp⟩ => ?_
      simp only [evS] at hp
      exact while_turns rh rs hp
    · cases h
  | .forr t it b, S, X, W, st, h, g, tk, po => by
    simp only [okS] at h
    split at h
    · obtain ⟨h1, h⟩ := b2 h
      obtain ⟨h2, h⟩ := b2 h
      obtain ⟨h3, h4⟩ := b2 h
      refine (ps_for po g.gd.calm (sI F it h3 g tk) (sG F t h2 g tk) (sSs F b h4 g tk po) (set_plain h1)).le fun D σ H ⟨ι, env, ah, rh, rs, hp⟩ => ?_
      simp only [evS] at hp
      exact ⟨ι, env, ah, rh, rs, hp.stepE (rel := RV.rI G) (fun _ _ _ z => z σ) fun src h1 ι1 H1 J e1 rh1 y1 hp1 => for_turns y1 rh1 (rs.ext e1) hp1⟩
    · cases h
  | .pass, S, X, W, st, h, g, tk, po => by
    simp only [okS] at h
    split at h
    · exact ps_pass.le fun D σ H ⟨ι, env, ah, rh, rs, hp⟩ => by
        simp only [evS] at hp
        exact hp ι H (.nx σ) .refl rh rs
    · cases h
  | .brk, S, X, W, st, h, g, tk, po => by
    simp only [okS] at h
    split at h
    · exact ps_break.le fun D σ H ⟨ι, env, ah, rh, rs, hp⟩ => by
        simp only [evS] at hp
        exact hp ι H (.bk σ) .refl rh rs
    · cases h
  | .cnt, S, X, W, st, h, g, tk, po => by
    simp only [okS] at h
    split at h
    · exact ps_continue.le fun D σ H ⟨ι, env, ah, rh, rs, hp⟩ => by
        simp only [evS] at hp
        exact hp ι H (.ct σ) .refl rh rs
    · cases h
  | .never, S, X, W, st, h, g, tk, po => ps_never.le fun D σ H ⟨ι, env, ah, rh, rs, hp⟩ => by
      simp only [evS] at hp
      exact hp.elim
theorem sSs (F : Fa G T P k) : ∀ (c : CSs) {S : Scope} {X : Cx} {W : WX} {st : List Stmt}, okSs T N S c st = true → Gd2 G S S N k X → Takes X W → PassesOwn (model X.prog X.w) X.A X.env X.xe → PSs X st (rdSs G (evC P k) W c)
  | .nil, S, X, W, st, h, g, tk, po => by
    cases st with
    | cons _ _ => simp [okSs] at h
    | nil =>
      exact pss_nil.le fun D σ H ⟨ι, env, ah, rh, rs, hp⟩ => by
        simp only [evSs] at hp
        exact hp ι H (.nx σ) .refl rh rs
  | .cons s ss, S, X, W, st, h, g, tk, po => by
    cases st with
    | nil => simp [okSs] at h
    | cons x r =>
      simp only [okSs] at h
      obtain ⟨h1, h2⟩ := b2 h
      refine (pss_cons (sS F s h1 g tk po) (sSs F ss h2 g tk po)).le fun D σ H ⟨ι, env, ah, rh, rs, hp⟩ => ?_
      simp only [evSs] at hp
      refine ⟨ι, env, ah, rh, rs, hp.step (rel := rF G) fun f h1 ι1 H1 o e1 rh1 v1 hp1 => ?_⟩
      cases f with
      | nx e =>
        cases o with
        | nx σ2 => exact ⟨ι1, e, h1, rh1, v1, hp1⟩
        | _ => exact v1.elim
      | ct e =>
        cases o with
        | ct σ2 => exact hp1 ι1 H1 (.ct σ2) .refl rh1 v1
        | _ => exact v1.elim
      | bk e =>
        cases o with
        | bk σ2 => exact hp1 ι1 H1 (.bk σ2) .refl rh1 v1
        | _ => exact v1.elim
      | rt d =>
        cases o with
        | rt v => exact hp1 ι1 H1 (.rt v) .refl rh1 v1
        | _ => exact v1.elim
end
end
end RV
set_option Elab.async false
set_option linter.all false
set_option maxRecDepth 100000
set_option autoImplicit false
set_option maxHeartbeats 4000000
/-! Part 10: the text's defs, level by level; the law's end. -/
namespace RV
open PySem PySem.Spec PyProof.Rows L2
/-! ### refs below -/
section
variable {G : Wd} {ι ι' : List Addr} {H H' : Hp}
mutual
theorem DV.un : ∀ (d : D) (v : V), DV G ι H d v → D.under ι.length d = true
  | .non, _, _ => by simp [D.under]
  | .bl _, _, _ => by simp [D.under]
  | .int _, _, _ => by simp [D.under]
  | .str _, _, _ => by simp [D.under]
  | .fn _, _, _ => by simp [D.under]
  | .tup ds, _, ⟨a, vs, _, _, h⟩ => by
    rw [D.under]
    exact DVs.un ds vs h
  | .rol ds, _, ⟨a, vs, _, _, h⟩ => by
    rw [D.under]
    exact DVs.un ds vs h
  | .ref n, _, ⟨a, h, _⟩ => by
    rw [D.under]
    exact decide_eq_true (List.getElem?_eq_some_iff.mp h).1
theorem DVs.un : ∀ (ds : List D) (vs : List V), DVs G ι H ds vs → D.unders ι.length ds = true
  | [], _, _ => by simp [D.unders]
  | d :: ds, _, ⟨v, r, _, h1, h2⟩ => by
    rw [D.unders, DV.un d v h1, DVs.un ds r h2]
    rfl
end
theorem pre_of {n : Nat} {a : Addr} (p : ι <+: ι') (hn : n < ι.length) (h : ι'[n]? = some a) : ι[n]? = some a := by
  obtain ⟨t, rfl⟩ := p
  rw [List.getElem?_append_left hn] at h
  exact h
mutual
theorem DV.cut (p : ι <+: ι') : ∀ (d : D) (v : V), D.under ι.length d = true → DV G ι' H d v → DV G ι H d v
  | .non, _, _, h => h
  | .bl _, _, _, h => h
  | .int _, _, _, h => h
  | .str _, _, _, h => h
  | .fn _, _, _, h => h
  | .tup ds, _, u, ⟨a, vs, h1, h2, h3⟩ => ⟨a, vs, h1, h2, DVs.cut p ds vs (by rw [D.under] at u; exact u) h3⟩
  | .rol ds, _, u, ⟨a, vs, h1, h2, h3⟩ => ⟨a, vs, h1, h2, DVs.cut p ds vs (by rw [D.under] at u; exact u) h3⟩
  | .ref n, _, u, ⟨a, h1, h2⟩ => ⟨a, pre_of p (of_decide_eq_true (by rw [D.under] at u; exact u)) h1, h2⟩
theorem DVs.cut (p : ι <+: ι') : ∀ (ds : List D) (vs : List V), D.unders ι.length ds = true → DVs G ι' H ds vs → DVs G ι H ds vs
  | [], _, _, h => h
  | d :: ds, _, u, ⟨v, r, h1, h2, h3⟩ => by
    rw [D.unders] at u
    obtain ⟨u1, u2⟩ := b2 u
    exact ⟨v, r, h1, DV.cut p d v u1 h2, DVs.cut p ds r u2 h3⟩
end
/-- new cells that nothing names are dropped -/
theorem RH.cut {ah ah' : AH} (r : RH G ι ah H) (e : Ext ι H ι' H') (r' : RH G ι' ah' H') (ht : ah'.take ah.length = ah) : Ext ι H ι H' ∧ RH G ι ah H' := by
  refine ⟨⟨List.prefix_refl _, fun _ z => .inl z, e.keep, e.fix⟩, r.len, r.nd, fun n a c h1 h2 => ?_⟩
  have hn : n < ah.length := (List.getElem?_eq_some_iff.mp h2).1
  have h3 : ah'[n]? = some c := by
    rw [← ht, List.getElem?_take_of_lt hn] at h2
    exact h2
  have q := r'.cell n a c (pre_get e.pre h1) h3
  have q0 := r.cell n a c h1 h2
  cases c with
  | lst ds =>
    obtain ⟨vs, q1, q2⟩ := q
    obtain ⟨us, _, q3⟩ := q0
    exact ⟨vs, q1, DVs.cut e.pre _ _ (DVs.un _ _ q3) q2⟩
theorem sweep_ok {ah ah' : AH} {d : D} {v : V} {Q : VK} {E : XK} (r : RH G ι ah H) (e : Ext ι H ι' H') (r' : RH G ι' ah' H') (hv : DV G ι' H' d v) (p : Pst G (rD G) ι H (sweep ah d ah') Q E) : Q v H' := by
  unfold sweep at p
  split at p
  · rename_i hc
    obtain ⟨e1, r1⟩ := r.cut e r' hc.1
    exact p ι H' v e1 r1 (DV.cut e.pre d v (by rw [r.len]; exact hc.2) hv)
  · exact p ι' H' v e r' hv
theorem rs_start {ds : List D} {vs : List V} (h : DVs G ι H ds vs) (N : List Str) (nn np : Nat) (h1 : nn = N.length) (h2 : vs.length = np) : RS G ι H (ds.map some ++ List.replicate (nn - np) none) (L2.start N vs) := by
  have hl := h.len
  refine ⟨by simp [L2.start, hl, h1, ← h2], fun i d hd => ?_⟩
  have hi : i < ds.length := by
    by_cases hi : i < ds.length
    · exact hi
    · rw [List.getElem?_append_right (by simpa using hi), List.getElem?_replicate] at hd
      split at hd <;> cases hd
  rw [List.getElem?_append_left (by simpa using hi), List.getElem?_map] at hd
  obtain ⟨v, h3, h4⟩ := h.get (i := i) (d := d) (by
    cases q : ds[i]? with
    | none => rw [q] at hd; cases hd
    | some x => rw [q] at hd; cases hd; rfl)
  refine ⟨v, ?_, h4⟩
  unfold L2.start
  rw [List.getElem?_append_left (by simpa [hl] using hi), List.getElem?_map, h3]
  rfl
end
/-! ### a def, one level up -/
section
variable {G : Wd} {T : Tab} {P : List Fn} {k : Nat}
theorem fnG_up (F : Fa G T P k) {j : Nat} {fn : Fn} {N ps : List Str} {x qual : Str} {params : Arguments} {body : List Stmt} {scope : Scope} {fd : FuncData} (hP : P[j]? = some fn) (hps : ps.length = fn.np) (hN : fn.nn = N.length)
    (FD : FunD G.K x qual params body scope [] [] (G.fa j) fd) (S : FnScope N ps scope) (ok : okSs T N scope fn.body body = true) : FnG G.P G.w G.K G.mg G.base (k + 1) (G.fa j) fd ps (spF G P (k + 1) j fn.np) := by
  obtain ⟨oc, od, dV, kV, doc, pm, an, cdv, ct, osl, rfl, lk, hcd, _, _⟩ := FD.ex
  refine ⟨fun vs H Q E h => h.1.trans hps.symm, fun A outer s H args us vs Q E hr hgd e0 hb r hsp => ?_⟩
  obtain ⟨hl, ι, ah, ds, rh, dv, hp⟩ := hsp
  have KX : G.K.In s.heap := e0.mod.kin.keeps fun b o e => (e0.bs b o e).1
  have lim : s.heap.NoLimit := e0.mod.nolimit.keeps fun b o e => (e0.bs b o e).1
  refine codeAny_call_function hr.depth (KX _ _ lk) rfl S.co S.gen rfl (PySem.W.codeRec_of KX hcd) (hb _ _ _ _ ?_)
  refine wpAny_newFunctionEnv_cells S.kind (fun y hy => ?_) fun env he s1 x => ?_
  · rcases S.par y.1 (List.of_mem_zip hy).1 with q | q
    · exact .inl q
    · exact .inr ⟨q, PySem.W.cellsFrom_some _ _ _ (.inl q)⟩
  subst he
  refine ⟨lim.keeps x.toInCall.keep, codeAny_func ?_⟩
  have g : Gd2 G scope scope N k (cxOf (CX G.P G.w) G.P G.w G.K G.mg G.base N qual scope (G.fa j) cdv A outer s H E) := ⟨⟨rfl, rfl, rfl, rfl, rfl, rfl, rfl, S.nd, rfl, hr.deeper _, hgd⟩, fun x hx => ⟨hx, .inl rfl⟩⟩
  have ht := sSs F fn.body ok g (takes_of rfl rfl rfl rfl) (passes_of rfl)
  have I := inv_start (CX := CX G.P G.w) (qual := qual) (f := G.fa j) (cd := cdv) (E := E) S hr.hd e0 (hl.trans hps.symm) r x
  have dl : ds.length = fn.np := dv.len.symm.trans hl
  have hq : rdSs G (evC P k) (fun c d _ H => E c d H) fn.body { nx := fun _ H' => Q .non H', rt := Q } (L2.start N vs) H := by
    refine ⟨ι, _, ah, rh, rs_start dv N fn.nn fn.np hN hl, ?_⟩
    simp only [evC, hP] at hp
    rw [if_pos dl] at hp
    cases q : evSs (evC P k) fn.body (ds.map some ++ List.replicate (fn.nn - fn.np) none) ah with
    | bad => rw [q] at hp; exact hp.elim
    | exc c v h1 =>
      rw [q] at hp
      exact fun ι' H' dx vv e1 e2 e3 e4 σ => hp ι' H' dx vv e1 e2 e3 e4
    | ok f h1 =>
      rw [q, R.bind_ok] at hp
      intro ι1 H1 o e1 rh1 v1
      cases f with
      | nx e =>
        cases o with
        | nx σ => exact sweep_ok (d := .non) (v := V.non) rh e1 rh1 (show DV G ι1 H1 .non .non from rfl) hp
        | _ => exact v1.elim
      | rt d =>
        cases o with
        | rt v => exact sweep_ok rh e1 rh1 v1 hp
        | _ => exact v1.elim
      | bk e => exact hp.elim
      | ct e => exact hp.elim
  refine wpAny_mono (ht.run [] s1 (L2.start N vs) H _ I hq) (fun fl s' hs => ?_) fun e s' hs => hs
  have fin : ∀ {σ' : L2.St} {H' : Hp} {v : V} {u : Value}, Inv (cxOf (CX G.P G.w) G.P G.w G.K G.mg G.base N qual scope (G.fa j) cdv A outer s H E) [] σ' H' s' → RelV v u → Q v H' → L2.CE outer G.P G.w H s Q u s' :=
    fun {σ' H' v u} J rv q => ⟨v, H', J.os, J.bare, J.base, J.hok, rv, q⟩
  cases fl with
  | ret u =>
    obtain ⟨v, σ', H', J, rv, q⟩ := hs
    exact fin J rv q
  | next =>
    obtain ⟨σ', H', J, q⟩ := hs
    exact fin (v := V.non) (u := Value.none) J rfl q
  | brk =>
    obtain ⟨_, _, _, q⟩ := hs
    exact False.elim q
  | cont =>
    obtain ⟨_, _, _, q⟩ := hs
    exact False.elim q
/-- a def: what does not lean on the level -/
structure DefsOk (G : Wd) (T : Tab) (P : List Fn) : Prop where
  fn : ∀ (j : Nat) (x : Str), T.fns[j]? = some x → G.mg x = some (.ref (G.fa j)) ∧ PySem.W.keepIn G.K (.ref (G.fa j)) = true ∧ ∃ (fd : FuncData) (N ps : List Str) (fn : Fn) (nm qual : Str) (params : Arguments) (body : List Stmt) (scope : Scope),
    P[j]? = some fn ∧ ps.length = fn.np ∧ fn.nn = N.length ∧ Binds G.K fd ps [] ∧ FunD G.K nm qual params body scope [] [] (G.fa j) fd ∧ FnScope N ps scope ∧ okSs T N scope fn.body body = true
  free : ∀ x, x ∈ T.free → G.mg x = none
  con : ∀ (j : Nat) (x : Str) (d : D), T.cons[j]? = some (x, d) → ∃ u v, G.mg x = some u ∧ RelV v u ∧ ∀ ι H, DV G ι H d v
  bfn : ∀ x id, (x, id) ∈ T.bfn → G.mg x = some (.builtin id)
theorem DefsOk.fa (d : DefsOk G T P) : ∀ k, Fa G T P k
  | 0 => ⟨fun j x h => by
      obtain ⟨h1, h2, fd, N, ps, fn, nm, qual, params, body, scope, a1, a2, a3, a4, a5, a6, a7⟩ := d.fn j x h
      exact ⟨h1, h2, fd, ps, fn, a1, a2, a4, fun vs H Q E z => z.1.trans a2.symm, fun A outer s H args us vs Q E _ _ _ _ _ z => by
        obtain ⟨_, ι, ah, ds, _, _, p⟩ := z
        exact p.elim⟩, d.free, d.con, d.bfn⟩
  | k + 1 => ⟨fun j x h => by
      obtain ⟨h1, h2, fd, N, ps, fn, nm, qual, params, body, scope, a1, a2, a3, a4, a5, a6, a7⟩ := d.fn j x h
      exact ⟨h1, h2, fd, ps, fn, a1, a2, a4, fnG_up (DefsOk.fa d k) a1 a2 a3 a5 a6 a7⟩, d.free, d.con, d.bfn⟩
end
/-! ### checks that are run -/
def parsOf (st : Stmt) : List Str := (defArgs st).args.map (·.arg)
def scopeB (N ps : List Str) (sc : Scope) : Bool :=
  decide (sc.kind = .function) && (!sc.isCoroutine && (!sc.isGenerator && (decide N.Nodup && (decide (N.take ps.length = ps) && ((ps.all fun x => locB sc x) && (sc.names.all fun y => decide (y.2 ≠ .free)))))))
theorem scopeB_ok {N ps : List Str} {sc : Scope} (h : scopeB N ps sc = true) : FnScope N ps sc := by
  unfold scopeB at h
  obtain ⟨h1, h⟩ := b2 h
  obtain ⟨h2, h⟩ := b2 h
  obtain ⟨h3, h⟩ := b2 h
  obtain ⟨h4, h⟩ := b2 h
  obtain ⟨h5, h⟩ := b2 h
  obtain ⟨h6, h7⟩ := b2 h
  exact ⟨of_decide_eq_true h1, nb h2, nb h3, of_decide_eq_true h4, of_decide_eq_true h5, fun x hx => loc_ok (List.all_eq_true.mp h6 x hx), fun y hy => of_decide_eq_true (List.all_eq_true.mp h7 y hy)⟩
def defB (T : Tab) (N : List Str) (fn : Fn) (st : Stmt) : Bool :=
  scopeB N (parsOf st) (defScope st) && (decide ((parsOf st).length = fn.np) && (decide (fn.nn = N.length) && okSs T N (defScope st) fn.body (defBody st)))
/-! ### the law's end -/
theorem dvs_ints {G : Wd} {ι : List Addr} {H : Hp} : ∀ ns : List Int, DVs G ι H (ns.map D.int) (ns.map V.int)
  | [] => rfl
  | n :: ns => ⟨_, _, rfl, rfl, dvs_ints ns⟩
/-- the law's call, at the place that a row's check calls it from -/
theorem law_callG {P : Program} {w : World} {K : PySem.W.Frag} {mg mb : Str → Option Value} {k : Nat} {fa a : Addr} {fd : FuncData} {x : Str} {sp : Heap → Sp} {s₁ : Shared} {vs : List Value} {ns : List Int}
    (KX : K.In s₁.heap) (hns : s₁.heap.Ns mainGlobals mg) (hb : s₁.heap.Ns builtinsNs mb) (hbb : ∀ x : Str, x ≠ "__name__" → mb x = bootBuiltins x) (hlim : s₁.heap.NoLimit) (hg : s₁.gens = #[])
    (ha : s₁.heap.get? a = some { cls := .type "list", data := .seq vs.toArray }) (hi : IntsAre vs ns) (hl : ns.length ≤ sizeLine) (hr : Room k callerA)
    (F : ∀ base : Heap, K.In base → base.Ns mainGlobals mg → FnG P w K mg base k fa fd [x] (sp base)) (hbind : ∀ (s : Shared) (u : Value), BindsTo s fd ⟨[u], []⟩ [(x, u)])
    (hsp : ∀ (base : Heap) (H : Hp), FzL K H a (ns.map V.int) → sp base [.ref a] H (fun v _ => v = .bl true) fun _ _ _ => False) :
    codeAny (model P w) callerA (.call (.ref fa) ⟨[.ref a], []⟩) (fun r s' => r = .ok (.ret (.bool true)) ∧ OldK s₁.heap s'.heap ∧ s'.os = s₁.os ∧ AllBare s'.gens) s₁ := by
  have rv := vals_ints hi
  have lenV := hi.length
  obtain ⟨H, hO, hS, hok, hA, hK⟩ : ∃ H : Hp, Only H ∧ FzL K H a (ns.map V.int) ∧ HOk P w H s₁.heap ∧ (∀ b, H b ≠ none → b = a) ∧ (H a ≠ none → K.lookup a = none) := by
    cases hk : K.lookup a with
    | some o =>
      have e := KX a o hk
      rw [ha] at e
      cases e
      refine ⟨fun _ => none, fun _ => .inl rfl, .inr fun _ => ⟨.inr ⟨_, vs.toArray, _, hk, rfl, rfl, rfl, by rw [List.size_toArray, lenV]; exact hl, by simpa using rv⟩, _, hk, rfl⟩, fun b u z => ?_, fun b z => absurd rfl z, fun z => absurd rfl z⟩
      have z' : (none : Option HO) = some u := z
      cases z'
    | none =>
      refine ⟨fun b => if b = a then some (.frz { cls := .type "list", data := .seq vs.toArray } (.lst (ns.map V.int))) else none, fun b => ?_, .inl ⟨_, if_pos rfl⟩, fun b u z => ?_, fun b z => ?_, fun _ => rfl⟩
      · by_cases h : b = a
        · exact .inr ⟨_, _, if_pos h⟩
        · exact .inl (if_neg h)
      · by_cases h : b = a
        · have z' := (if_pos h).symm.trans z
          cases z'
          subst h
          exact ⟨ha, by rw [List.length_map]; exact hl, vs, _, rv, ha⟩
        · have z' := (if_neg h).symm.trans z
          cases z'
      · by_cases h : b = a
        · exact h
        · exact absurd (if_neg h) z
  have free : ∀ {b : Addr} {o : Obj}, s₁.heap.get? b = some o → (b = a → False) → H b = none := fun {b o} e d => by
    cases q : H b with
    | none => rfl
    | some u => exact (d (hA b (by rw [q]; simp))).elim
  have nsK : ∀ {b : Addr} {m : Str → Option Value}, s₁.heap.Ns b m → (hidT s₁.heap H).Ns b m := fun {b m} ⟨o, es, ep, e, d, r⟩ => ⟨o, es, ep, hidT_get e (free e fun z => by
    subst z
    rw [ha] at e
    cases e
    cases d), d, r⟩
  have hKb : K.In (hidT s₁.heap H) := fun b o e => hidT_get (KX b o e) (by
    cases q : H b with
    | none => rfl
    | some u =>
      have z : b = a := hA b (by rw [q]; simp)
      subst z
      rw [hK (by rw [q]; simp)] at e
      cases e)
  have hM : Mod K mg (hidT s₁.heap H) := ⟨hKb, nsK hns, ⟨mb, nsK hb, hbb⟩, hlim.elim fun mc h => ⟨mc, nsK h.1, h.2⟩⟩
  have e0 : Env0 P w K mg (hidT s₁.heap H) callerA [] s₁ H := ⟨rfl, hM, fun b o e => of_hidT e, Nat.le_of_eq (hidT_size _ _), trivial, fun b hb => absurd (show b ∈ ([] : List Addr) from hb) (by simp), hok, .of_eq hg⟩
  refine codeAny_mono ((F _ hKb (nsK hns)).run callerA [] s₁ H ⟨[.ref a], []⟩ [.ref a] [.ref a] _ _ hr rfl e0 (hbind s₁ (.ref a)) (.cons rfl .nil) (hsp _ H hS)) fun r s' h => ?_
  cases r with
  | error e =>
    obtain ⟨_, _, _, _, _, _, _, _, _, _, _, _, z⟩ := (show CX P w [] H s₁ (fun _ _ _ => False) e s' from h)
    exact z.elim
  | ok fl =>
    cases fl with
    | next => exact False.elim h
    | brk => exact False.elim h
    | cont => exact False.elim h
    | ret u =>
      obtain ⟨v, H', os, bare, un, hok', r', q⟩ := h
      have q' : v = .bl true := q
      subst q'
      obtain rfl : u = Value.bool true := r'
      refine ⟨rfl, OldK.of_keep fun b o e => ?_, os, bare⟩
      cases q : H b with
      | none => exact un.keep b o e q (by intro z; exact absurd (show b ∈ ([] : List Addr) from z) (by simp)) (by simp)
      | some u =>
        rcases hO b with z | ⟨ob, xs, z⟩
        · rw [q] at z; cases z
        · obtain ⟨e1, _⟩ := hok b _ z
          obtain ⟨e2, _⟩ := hok' b _ (un.frzs b ob _ z)
          rw [e] at e1
          cases e1
          exact e2
/-- a law over a text: its defs, the law's place j among them -/
theorem walk_G {l : PySem.W.OpenLaw} {n k j : Nat} {q : Program} {loose : List Str} {XP : (Str → Option Value) → Heap → Prop} {YP : World → Heap → Prop} {d : DefRec} {T : Tab} {P : List Fn} {x : Str}
    (hn : l.most = some n) (hn2 : n ≤ sizeLine) (hdf : d.params.defaults = []) (hr : Room k callerA) (hj : T.fns[j]? = some d.name)
    (F : ∀ (w : World) (mg : Str → Option Value) (h : Heap), YP w h → h.Ns mainGlobals mg → ∃ (K : PySem.W.Frag) (fa ca : Nat → Addr) (fld : Nat → Str) (fd : FuncData) (nm qual : Str) (params : Arguments) (body : List Stmt) (scope : Scope), K.In h ∧
      (∀ base : Heap, DefsOk ⟨l.prog, w, K, mg, base, fa, ca, fld⟩ T P) ∧ (∀ (s : Shared) (u : Value), BindsTo s fd ⟨[u], []⟩ [(x, u)]) ∧
      FunD K nm qual params body scope [] [] (fa j) fd ∧ (∃ (N : List Str) (fn : Fn), P[j]? = some fn ∧ fn.np = 1 ∧ fn.nn = N.length ∧ FnScope N [x] scope ∧ okSs T N scope fn.body body = true))
    (law : ∀ ns : List Int, ns.length ≤ n → ∃ h', evC P k j [.rol (ns.map .int)] [] = .ok (.bl true) h') :
    PySem.W.WalkO q loose XP YP l.row.toRowW d [] (fun f vs => PySem.call f vs) := by
  refine Att.attach_call hn hdf fun w s₀ s₁ mg mb fa o pm cd doc a vs ns G Y ho hd hcd hmg hobj hints hlen hg => ?_
  obtain ⟨K, fa', ca, fld, fd, nm, qual, params, body, scope, KX, hD, hb, FD, N, fn, hP, hnp, hnn, S, ok⟩ := F w mg _ Y G.T.g
  have hfa : fa = fa' j := by
    have z : mg d.name = some (.ref (fa' j)) := ((hD s₁.heap).fn j _ hj).1
    rw [hmg] at z
    cases z
    rfl
  subst hfa
  cases k with
  | zero =>
    obtain ⟨h', e⟩ := law ns hlen
    simp [evC] at e
  | succ k =>
    refine law_callG (x := x) (sp := fun base => spF ⟨l.prog, w, K, mg, base, fa', ca, fld⟩ P (k + 1) j fn.np) KX G.T.g G.T.b G.T.builtins G.T.nolimit hg hobj hints (Nat.le_trans hlen hn2) hr
      (fun base h1 h2 => fnG_up (G := ⟨l.prog, w, K, mg, base, fa', ca, fld⟩) ((hD base).fa k) hP hnp.symm hnn FD S ok) hb fun base H hS => ?_
    obtain ⟨h', e⟩ := law ns hlen
    refine ⟨hnp.symm, [], [], [.rol (ns.map .int)], ⟨rfl, List.nodup_nil, fun n a c z => by simp at z⟩, ⟨_, [], rfl, ⟨a, _, rfl, hS, ?_⟩, rfl⟩, ?_⟩
    · exact dvs_ints _
    · rw [e]
      exact fun ι' H' v _ _ hv => hv
end RV
set_option Elab.async false
set_option linter.all false
set_option maxRecDepth 100000
set_option autoImplicit false
set_option maxHeartbeats 4000000
/-! Part 11: what the head tells of the text. -/
namespace RV
open PySem PySem.Spec PyProof.Rows L2
/-! ### the module's constants -/
mutual
/-- the value u, as K has it, is the data d -/
def dB (K : PySem.W.Frag) : D → Value → Bool
  | .non, u => (match u with
    | .none => true
    | _ => false)
  | .bl b, u => (match u with
    | .bool c => b == c
    | _ => false)
  | .int i, u => (match u with
    | .int j _ => decide (i = j)
    | _ => false)
  | .str x, u => (match u with
    | .str y _ => decide (x = y)
    | _ => false)
  | .tup ds, u => (match u with
    | .ref a => (match K.lookup a with
      | some ⟨.type c, _, .seq its _, _⟩ => decide (c = "tuple") && (decide (its.size ≤ sizeLine) && dBs K ds its.toList)
      | _ => false)
    | _ => false)
  | .rol ds, u => (match u with
    | .ref a => (match K.lookup a with
      | some ⟨.type c, none, .seq its _, _⟩ => decide (c = "list") && (decide (its.size ≤ sizeLine) && dBs K ds its.toList)
      | _ => false)
    | _ => false)
  | .ref _, _ => false
  | .fn _, _ => false
def dBs (K : PySem.W.Frag) : List D → List Value → Bool
  | [], us => us.isEmpty
  | d :: ds, us => (match us with
    | u :: r => dB K d u && dBs K ds r
    | _ => false)
end
section
variable {K : PySem.W.Frag}
mutual
theorem dB_ok : ∀ (d : D) (u : Value), dB K d u = true → ∃ v, RelV v u ∧ ∀ (G : Wd) (ι : List Addr) (H : Hp), G.K = K → DV G ι H d v
  | .non, u, h => by
    unfold dB at h
    split at h
    · exact ⟨.non, rfl, fun _ _ _ _ => rfl⟩
    · cases h
  | .bl b, u, h => by
    unfold dB at h
    split at h
    · exact ⟨.bl b, by rw [eq_of_beq h]; rfl, fun _ _ _ _ => rfl⟩
    · cases h
  | .int i, u, h => by
    unfold dB at h
    split at h
    · rename_i j t
      exact ⟨.int i, ⟨t, by rw [of_decide_eq_true h]⟩, fun _ _ _ _ => rfl⟩
    · cases h
  | .str x, u, h => by
    unfold dB at h
    split at h
    · rename_i j t
      exact ⟨.str x, ⟨t, by rw [of_decide_eq_true h]⟩, fun _ _ _ _ => rfl⟩
    · cases h
  | .tup ds, u, h => by
    unfold dB at h
    split at h
    · rename_i a
      split at h
      · rename_i c od its n sl q
        obtain ⟨h1, h2⟩ := b2 h
        obtain ⟨h3, h4⟩ := b2 h2
        obtain ⟨vs, r, hv⟩ := dBs_ok ds its.toList h4
        exact ⟨.ref a, rfl, fun G ι H e => ⟨a, vs, rfl, by rw [e]; exact .inr ⟨_, its, n, q, congrArg Value.type (of_decide_eq_true h1), rfl, of_decide_eq_true h3, r⟩, hv G ι H e⟩⟩
      · cases h
    · cases h
  | .rol ds, u, h => by
    unfold dB at h
    split at h
    · rename_i a
      split at h
      · rename_i c its n sl q
        obtain ⟨h1, h2⟩ := b2 h
        obtain ⟨h3, h4⟩ := b2 h2
        obtain ⟨vs, r, hv⟩ := dBs_ok ds its.toList h4
        exact ⟨.ref a, rfl, fun G ι H e => ⟨a, vs, rfl, by rw [e]; exact .inr fun H' => ⟨.inr ⟨_, its, n, q, congrArg Value.type (of_decide_eq_true h1), rfl, rfl, of_decide_eq_true h3, r⟩, _, q, congrArg Value.type (of_decide_eq_true h1)⟩, hv G ι H e⟩⟩
      · cases h
    · cases h
  | .ref _, u, h => by simp [dB] at h
  | .fn _, u, h => by simp [dB] at h
theorem dBs_ok : ∀ (ds : List D) (us : List Value), dBs K ds us = true → ∃ vs, Vals vs us ∧ ∀ (G : Wd) (ι : List Addr) (H : Hp), G.K = K → DVs G ι H ds vs
  | [], us, h => by
    cases us with
    | nil => exact ⟨[], .nil, fun _ _ _ _ => rfl⟩
    | cons _ _ => simp [dBs] at h
  | d :: ds, us, h => by
    cases us with
    | nil => simp [dBs] at h
    | cons u r =>
      unfold dBs at h
      obtain ⟨h1, h2⟩ := b2 h
      obtain ⟨v, q1, q2⟩ := dB_ok d u h1
      obtain ⟨vs, q3, q4⟩ := dBs_ok ds r h2
      exact ⟨v :: vs, .cons q1 q3, fun G ι H e => ⟨v, vs, rfl, q2 G ι H e, q4 G ι H e⟩⟩
end
end
/-! ### the hook -/
def conB (K : PySem.W.Frag) (p : Str × D) : Bool := match PySem.W.nsIn K mainGlobals p.1 with
  | some (some u) => dB K p.2 u
  | _ => false
def bfnB (K : PySem.W.Frag) (p : Str × String) : Bool := match PySem.W.nsIn K mainGlobals p.1 with
  | some (some (.builtin id)) => decide (id = p.2)
  | _ => false
/-- all that a text's table says of the module -/
def tabB (T : Tab) (K : PySem.W.Frag) : Bool := (T.fns.all fun x => (He.Fa.glo x).ok K) && ((T.free.all fun x => (He.Fa.free x).ok K) && ((T.cons.all fun p => conB K p) && (T.bfn.all fun p => bfnB K p)))
abbrev AlR : Type := Bool × He.AlD
def obsR (T : Tab) (fn : List He.DefD) (K : PySem.W.Frag) : AlR := (tabB T K, He.obsD [] fn K)
def obsRG (n : Nat) (T : Tab) (fn : List He.DefD) (g : Addr → Option Obj) : AlR := obsR T fn (He.frG g (He.asD g n))
def hookR (n : Nat) (T : Tab) (fn : List He.DefD) : PySem.W.Hook where
  α := AlR
  obs := fun s => obsRG n T fn s.heap.get?
  val := fun _ => (true, He.valD fn)
  says := fun _ h => ∃ K : PySem.W.Frag, K.In h ∧ tabB T K = true ∧ He.SaysD [] fn K
  of := fun _ _ e => ⟨_, He.frG_in, congrArg (fun z : AlR => z.1) e, congrArg (fun z : AlR => z.2) e⟩
  keeps := fun _ _ _ ⟨K, hK, c⟩ k => ⟨K, PySem.W.Frag.In.keeps hK k, c⟩
theorem obsRG_eq {n : Nat} {T : Tab} {fn : List He.DefD} {g : Addr → Option Obj} {s : Shared} (h : ∀ a, g a = s.heap.get? a) : obsRG n T fn g = (hookR n T fn).obs s := by
  have e : g = s.heap.get? := funext h
  rw [e] <;> rfl
theorem conB_ok {K : PySem.W.Frag} {h : Heap} {mg : Str → Option Value} (X : K.In h) (G : h.Ns mainGlobals mg) {p : Str × D} (c : conB K p = true) : ∃ u v, mg p.1 = some u ∧ RelV v u ∧ ∀ (G : Wd) (ι : List Addr) (H : Hp), G.K = K → DV G ι H p.2 v := by
  unfold conB at c
  split at c
  · rename_i u e
    obtain ⟨v, r, hv⟩ := dB_ok _ _ c
    exact ⟨u, v, PySem.W.mg_of X G e, r, hv⟩
  · cases c
theorem bfnB_ok {K : PySem.W.Frag} {h : Heap} {mg : Str → Option Value} (X : K.In h) (G : h.Ns mainGlobals mg) {p : Str × String} (c : bfnB K p = true) : mg p.1 = some (.builtin p.2) := by
  unfold bfnB at c
  split at c
  · rename_i u e
    rw [← of_decide_eq_true c]
    exact PySem.W.mg_of X G e
  · cases c
/-! ### a def by its statement -/
def dOf (x : Str) (st : Stmt) : He.DefD := ⟨(x, none), x, x, defArgs st, defBody st, defScope st, [], []⟩
/-- one def's share: its statement, its names' slots, its core; that a call binds -/
structure Part (T : Tab) (N : List Str) (fn : Fn) (st : Stmt) : Prop where
  ok : defB T N fn st = true
  bind : ∀ (x qual : Str) (body : List Stmt) (scope : Scope) (kV doc pm : Value) (an : Option Addr) (cdv ct : Value) (us : List Value), us.length = (parsOf st).length → bindArgs (PySem.W.fnOf x qual (defArgs st) body scope .none kV doc pm an cdv ct) ⟨us, []⟩ = pure ((parsOf st).zip us)
inductive Parts (T : Tab) : List Str → List Stmt → List Fn → Prop where
  | nil : Parts T [] [] []
  | cons {x : Str} {N : List Str} {fn : Fn} {st : Stmt} {xs : List Str} {sts : List Stmt} {fns : List Fn} : Part T N fn st → Parts T xs sts fns → Parts T (x :: xs) (st :: sts) (fn :: fns)
theorem Parts.at_ {T : Tab} : ∀ {xs : List Str} {sts : List Stmt} {fns : List Fn}, Parts T xs sts fns → ∀ (j : Nat) (x : Str), xs[j]? = some x → ∃ st fn N, sts[j]? = some st ∧ fns[j]? = some fn ∧ Part T N fn st
  | _, _, _, .nil, j, x, h => by simp at h
  | _, _, _, .cons p ps, 0, x, h => ⟨_, _, _, rfl, rfl, p⟩
  | _, _, _, .cons p ps, j + 1, x, h => by
    rw [List.getElem?_cons_succ] at h
    obtain ⟨st, fn, N, h1, h2, h3⟩ := ps.at_ j x h
    exact ⟨st, fn, N, by rw [List.getElem?_cons_succ]; exact h1, by rw [List.getElem?_cons_succ]; exact h2, h3⟩
def defsOf (T : Tab) (sts : List Stmt) : List He.DefD := List.zipWith dOf T.fns sts
theorem zw_get {xs : List Str} {sts : List Stmt} {j : Nat} {x : Str} {st : Stmt} (h1 : xs[j]? = some x) (h2 : sts[j]? = some st) : (List.zipWith dOf xs sts)[j]? = some (dOf x st) := by
  rw [List.getElem?_zipWith, h1, h2]
theorem defs_ok {T : Tab} {sts : List Stmt} {P : List Fn} {K : PySem.W.Frag} {h : Heap} {mg : Str → Option Value} (ps : Parts T T.fns sts P) (X : K.In h) (G : h.Ns mainGlobals mg) (ht : tabB T K = true) (c : He.SaysD [] (defsOf T sts) K)
    (Pg : Program) (w : World) (base : Heap) (ca : Nat → Addr) (fld : Nat → Str) : DefsOk ⟨Pg, w, K, mg, base, fun j => He.ga K (T.fns.getD j Str.empty), ca, fld⟩ T P := by
  unfold tabB at ht
  obtain ⟨t1, ht⟩ := b2 ht
  obtain ⟨t2, ht⟩ := b2 ht
  obtain ⟨t3, t4⟩ := b2 ht
  refine ⟨fun j x hx => ?_, fun x hx => He.free_ok X G (List.all_eq_true.mp t2 x hx), fun j x d hj => ?_, fun x id hx => bfnB_ok X G (List.all_eq_true.mp t4 _ hx)⟩
  · obtain ⟨st, fn, N, h1, h2, p⟩ := ps.at_ j x hx
    have e : T.fns.getD j Str.empty = x := by rw [List.getD_eq_getElem?_getD, hx]; rfl
    obtain ⟨fd, FD⟩ := c.def_ j (d := dOf x st) (zw_get hx h1)
    obtain ⟨c1, c2⟩ := b2 p.ok
    obtain ⟨c2, c3⟩ := b2 c2
    obtain ⟨c3, c4⟩ := b2 c3
    have S := scopeB_ok c1
    show mg x = some (.ref (He.ga K (T.fns.getD j Str.empty))) ∧ PySem.W.keepIn K (.ref (He.ga K (T.fns.getD j Str.empty))) = true ∧ _
    rw [e]
    refine ⟨He.glo_ok X G (List.all_eq_true.mp t1 x (List.mem_of_getElem? hx)), FD.kp, fd, N, parsOf st, fn, x, x, defArgs st, defBody st, defScope st, h2, of_decide_eq_true c2, of_decide_eq_true c3, FunD.bindsN FD fun kV doc pm an cdv ct us hl => p.bind x x (defBody st) (defScope st) kV doc pm an cdv ct us hl, ?_, S, c4⟩
    show FunD K x x (defArgs st) (defBody st) (defScope st) [] [] (He.ga K (T.fns.getD j Str.empty)) fd
    rw [e]
    exact FD
  · obtain ⟨u, v, q1, q2, q3⟩ := conB_ok X G (List.all_eq_true.mp t3 _ (List.mem_of_getElem? hj))
    exact ⟨u, v, q1, q2, fun ι H => q3 _ ι H rfl⟩
/-- a law over a text by its head -/
theorem walk_R {l : PySem.W.OpenLaw} {n k j m : Nat} {q : Program} {loose : List Str} {XP : (Str → Option Value) → Heap → Prop} {d : DefRec} {T : Tab} {sts : List Stmt} {P : List Fn} {x : Str} {st : Stmt}
    (hn : l.most = some n) (hn2 : n ≤ sizeLine) (hdf : d.params.defaults = []) (hr : Room k callerA) (hj : T.fns[j]? = some d.name) (hst : sts[j]? = some st) (hp : parsOf st = [x]) (ps : Parts T T.fns sts P)
    (law : ∀ ns : List Int, ns.length ≤ n → ∃ h', evC P k j [.rol (ns.map .int)] [] = .ok (.bl true) h') :
    PySem.W.WalkO q loose XP (hookR m T (defsOf T sts)).says l.row.toRowW d [] (fun f vs => PySem.call f vs) := by
  refine walk_G (j := j) (T := T) (P := P) (x := x) hn hn2 hdf hr hj (fun w mg h Y G => ?_) law
  obtain ⟨K, KX, ht, c⟩ := Y
  obtain ⟨st', fn, N, h1, h2, p⟩ := ps.at_ j _ hj
  rw [hst] at h1
  cases h1
  obtain ⟨fd, FD⟩ := c.def_ j (d := dOf d.name st) (zw_get hj hst)
  obtain ⟨c1, c2⟩ := b2 p.ok
  obtain ⟨c2, c3⟩ := b2 c2
  obtain ⟨c3, c4⟩ := b2 c3
  have S := scopeB_ok c1
  rw [hp] at S
  have c2' := of_decide_eq_true c2
  rw [hp] at c2'
  have e : T.fns.getD j Str.empty = d.name := by rw [List.getD_eq_getElem?_getD, hj]; rfl
  refine ⟨K, fun j => He.ga K (T.fns.getD j Str.empty), fun _ => 0, fun _ => Str.empty, fd, d.name, d.name, defArgs st, defBody st, defScope st, KX, fun base => defs_ok ps KX G ht c _ _ _ _ _, fun s u => ?_, ?_, N, fn, h2, c2'.symm, of_decide_eq_true c3, S, c4⟩
  · exact FunD.bindsA (ps := [x]) FD (fun kV doc pm an cdv ct us hl => by
      have z := p.bind d.name d.name (defBody st) (defScope st) kV doc pm an cdv ct us
      rw [hp] at z
      exact z hl) s [u] rfl
  · show FunD K d.name d.name (defArgs st) (defBody st) (defScope st) [] [] (He.ga K (T.fns.getD j Str.empty)) fd
    rw [e]
    exact FD
end RV
set_option Elab.async false
set_option linter.all false
set_option maxRecDepth 100000
set_option autoImplicit false
set_option maxHeartbeats 4000000
namespace RV.K00
open PySem PySem.Spec PyProof.Rows L2
def top (i : Nat) : Stmt := PySem.Challenge.pw_everyslope_k00_quotients_reckoned.main.body.getD i (.Pass ⟨0, 0, 0, 0⟩)
def c_BEYOND : D := .int (100000000000000000000000000000000000000000000000000000000000000000000000000000000000000000000000000000000000000000000000000000000000000000000000000000000000000000000000000000000000000000000000000000000)
def c_ONE : D := .tup [(.int (1)), (.int (1))]
def c_ZERO : D := .tup [(.int (0)), (.int (1))]
/-- is_integer(value) -/
def f_is_integer : Fn := ⟨1, 1,
    (.cons (.ret (.and (.isi (.var 0) .int) (.not (.isi (.var 0) .bool))))
    .nil)⟩
/-- is_told(value) -/
def f_is_told : Fn := ⟨1, 1,
    (.cons (.ret (.and (.call 0 (.cons (.var 0) .nil)) (.cmp2 .Lt .Lt (.neg (.glob 0 c_BEYOND)) (.var 0) (.glob 0 c_BEYOND))))
    .nil)⟩
/-- to_power(value, many, found, turn) -/
def f_to_power : Fn := ⟨2, 4,
    (.cons (.asg (.name 2) (.lit (.int (1))))
    (.cons (.forr (.name 3) (.rng1 (.var 1)) (.cons (.asg (.name 2) (.op2 .Mult (.var 2) (.var 0)))
    .nil))
    (.cons (.ret (.var 2))
    .nil)))⟩
/-- made(up, down, common) -/
def f_made : Fn := ⟨2, 3,
    (.cons (.ifs (.cmp .Lt (.var 1) (.lit (.int (0)))) (.cons (.asg (.tup (.cons (.name 0) (.cons (.name 1) .nil))) (.tup (.cons (.neg (.var 0)) (.cons (.neg (.var 1)) .nil))))
    .nil) .nil)
    (.cons (.asg (.name 2) (.blt .gcd (.cons (.var 0) (.cons (.var 1) .nil))))
    (.cons (.ret (.tup (.cons (.op2 .FloorDiv (.var 0) (.var 2)) (.cons (.op2 .FloorDiv (.var 1) (.var 2)) .nil))))
    .nil)))⟩
/-- is_great(value) -/
def f_is_great : Fn := ⟨1, 1,
    (.cons (.ret (.or (.not (.cmp2 .Lt .Lt (.neg (.glob 0 c_BEYOND)) (.sub (.var 0) (.lit (.int (0)))) (.glob 0 c_BEYOND))) (.not (.cmp .Lt (.sub (.var 0) (.lit (.int (1)))) (.glob 0 c_BEYOND)))))
    .nil)⟩
/-- is_any(value, own) -/
def f_is_any : Fn := ⟨1, 2,
    (.cons (.ifs (.or (.not (.isi (.var 0) .tup)) (.or (.cmp .NotEq (.blt .len (.cons (.var 0) .nil)) (.lit (.int (2)))) (.not (.bltT .all (.lc [1] (.name 1) (.val (.var 0)) .none (.call 0 (.cons (.var 1) .nil))))))) (.cons (.ret (.lit (.bl false)))
    .nil) .nil)
    (.cons (.ret (.and (.cmp .GtE (.sub (.var 0) (.lit (.int (1)))) (.lit (.int (1)))) (.cmp .Eq (.blt .gcd (.cons (.sub (.var 0) (.lit (.int (0)))) (.cons (.sub (.var 0) (.lit (.int (1)))) .nil))) (.lit (.int (1))))))
    .nil))⟩
/-- is_quotient(value) -/
def f_is_quotient : Fn := ⟨1, 1,
    (.cons (.ret (.and (.call 5 (.cons (.var 0) .nil)) (.not (.call 4 (.cons (.var 0) .nil)))))
    .nil)⟩
/-- check_quotient(value, reason) -/
def f_check_quotient : Fn := ⟨2, 2,
    (.cons (.ifs (.not (.call 6 (.cons (.var 0) .nil))) (.cons .never
    .nil) .nil)
    .nil)⟩
/-- check_two(one, other) -/
def f_check_two : Fn := ⟨2, 2,
    (.cons (.expr (.call 7 (.cons (.var 0) (.cons (.lit (.str "one")) .nil))))
    (.cons (.expr (.call 7 (.cons (.var 1) (.cons (.lit (.str "other")) .nil))))
    .nil))⟩
/-- quotient(up, down) -/
def f_quotient : Fn := ⟨2, 2,
    (.cons (.ifs (.not (.call 1 (.cons (.var 0) .nil))) (.cons .never
    .nil) .nil)
    (.cons (.ifs (.or (.not (.call 1 (.cons (.var 1) .nil))) (.cmp .Eq (.var 1) (.lit (.int (0))))) (.cons .never
    .nil) .nil)
    (.cons (.ret (.call 3 (.cons (.var 0) (.cons (.var 1) .nil))))
    .nil)))⟩
/-- added(one, other) -/
def f_added : Fn := ⟨2, 2,
    (.cons (.ifs (.cmp2 .Eq .Eq (.sub (.var 0) (.lit (.int (1)))) (.sub (.var 1) (.lit (.int (1)))) (.lit (.int (1)))) (.cons (.ret (.tup (.cons (.op2 .Add (.sub (.var 0) (.lit (.int (0)))) (.sub (.var 1) (.lit (.int (0))))) (.cons (.lit (.int (1))) .nil))))
    .nil) .nil)
    (.cons (.ret (.call 3 (.cons (.op2 .Add (.op2 .Mult (.sub (.var 0) (.lit (.int (0)))) (.sub (.var 1) (.lit (.int (1))))) (.op2 .Mult (.sub (.var 1) (.lit (.int (0)))) (.sub (.var 0) (.lit (.int (1)))))) (.cons (.op2 .Mult (.sub (.var 0) (.lit (.int (1)))) (.sub (.var 1) (.lit (.int (1))))) .nil))))
    .nil))⟩
/-- turned(one) -/
def f_turned : Fn := ⟨1, 1,
    (.cons (.ret (.tup (.cons (.neg (.sub (.var 0) (.lit (.int (0))))) (.cons (.sub (.var 0) (.lit (.int (1)))) .nil))))
    .nil)⟩
/-- taken(one, other) -/
def f_taken : Fn := ⟨2, 2,
    (.cons (.ret (.call 10 (.cons (.var 0) (.cons (.call 11 (.cons (.var 1) .nil)) .nil))))
    .nil)⟩
/-- product(one, other) -/
def f_product : Fn := ⟨2, 2,
    (.cons (.ifs (.cmp2 .Eq .Eq (.sub (.var 0) (.lit (.int (1)))) (.sub (.var 1) (.lit (.int (1)))) (.lit (.int (1)))) (.cons (.ret (.tup (.cons (.op2 .Mult (.sub (.var 0) (.lit (.int (0)))) (.sub (.var 1) (.lit (.int (0))))) (.cons (.lit (.int (1))) .nil))))
    .nil) .nil)
    (.cons (.ret (.call 3 (.cons (.op2 .Mult (.sub (.var 0) (.lit (.int (0)))) (.sub (.var 1) (.lit (.int (0))))) (.cons (.op2 .Mult (.sub (.var 0) (.lit (.int (1)))) (.sub (.var 1) (.lit (.int (1))))) .nil))))
    .nil))⟩
/-- divided(one, other) -/
def f_divided : Fn := ⟨2, 2,
    (.cons (.ret (.call 3 (.cons (.op2 .Mult (.sub (.var 0) (.lit (.int (0)))) (.sub (.var 1) (.lit (.int (1))))) (.cons (.op2 .Mult (.sub (.var 0) (.lit (.int (1)))) (.sub (.var 1) (.lit (.int (0))))) .nil))))
    .nil)⟩
/-- raised(one, many) -/
def f_raised : Fn := ⟨2, 2,
    (.cons (.ifs (.cmp .Lt (.var 1) (.lit (.int (0)))) (.cons (.asg (.tup (.cons (.name 0) (.cons (.name 1) .nil))) (.tup (.cons (.call 14 (.cons (.glob 1 c_ONE) (.cons (.var 0) .nil))) (.cons (.neg (.var 1)) .nil))))
    .nil) .nil)
    (.cons (.ret (.tup (.cons (.call 2 (.cons (.sub (.var 0) (.lit (.int (0)))) (.cons (.var 1) .nil))) (.cons (.call 2 (.cons (.sub (.var 0) (.lit (.int (1)))) (.cons (.var 1) .nil))) .nil))))
    .nil))⟩
/-- below(one, other) -/
def f_below : Fn := ⟨2, 2,
    (.cons (.ret (.cmp .Lt (.op2 .Mult (.sub (.var 0) (.lit (.int (0)))) (.sub (.var 1) (.lit (.int (1))))) (.op2 .Mult (.sub (.var 1) (.lit (.int (0)))) (.sub (.var 0) (.lit (.int (1)))))))
    .nil)⟩
/-- summed(rows, found, own) -/
def f_summed : Fn := ⟨1, 3,
    (.cons (.asg (.name 1) (.glob 2 c_ZERO))
    (.cons (.forr (.name 2) (.val (.var 0)) (.cons (.asg (.name 1) (.call 10 (.cons (.var 1) (.cons (.var 2) .nil))))
    .nil))
    (.cons (.ret (.var 1))
    .nil)))⟩
/-- plus(one, other) -/
def f_plus : Fn := ⟨2, 2,
    (.cons (.expr (.call 8 (.cons (.var 0) (.cons (.var 1) .nil))))
    (.cons (.ret (.call 10 (.cons (.var 0) (.cons (.var 1) .nil))))
    .nil))⟩
/-- minus(one, other) -/
def f_minus : Fn := ⟨2, 2,
    (.cons (.expr (.call 8 (.cons (.var 0) (.cons (.var 1) .nil))))
    (.cons (.ret (.call 12 (.cons (.var 0) (.cons (.var 1) .nil))))
    .nil))⟩
/-- times(one, other) -/
def f_times : Fn := ⟨2, 2,
    (.cons (.expr (.call 8 (.cons (.var 0) (.cons (.var 1) .nil))))
    (.cons (.ret (.call 13 (.cons (.var 0) (.cons (.var 1) .nil))))
    .nil))⟩
/-- over(one, other) -/
def f_over : Fn := ⟨2, 2,
    (.cons (.expr (.call 8 (.cons (.var 0) (.cons (.var 1) .nil))))
    (.cons (.ifs (.cmp .Eq (.var 1) (.glob 2 c_ZERO)) (.cons .never
    .nil) .nil)
    (.cons (.ret (.call 14 (.cons (.var 0) (.cons (.var 1) .nil))))
    .nil)))⟩
/-- power(one, many) -/
def f_power : Fn := ⟨2, 2,
    (.cons (.expr (.call 7 (.cons (.var 0) (.cons (.lit (.str "one")) .nil))))
    (.cons (.ifs (.or (.not (.call 0 (.cons (.var 1) .nil))) (.or (.not (.cmp2 .LtE .LtE (.neg (.lit (.int (100)))) (.var 1) (.lit (.int (100))))) (.and (.cmp .Lt (.var 1) (.lit (.int (0)))) (.cmp .Eq (.var 0) (.glob 2 c_ZERO))))) (.cons .never
    .nil) .nil)
    (.cons (.ret (.call 15 (.cons (.var 0) (.cons (.var 1) .nil))))
    .nil)))⟩
/-- total(rows, own) -/
def f_total : Fn := ⟨1, 2,
    (.cons (.ifs (.or (.not (.isi (.var 0) .tup)) (.not (.bltT .all (.lc [1] (.name 1) (.val (.var 0)) .none (.call 6 (.cons (.var 1) .nil)))))) (.cons .never
    .nil) .nil)
    (.cons (.ret (.call 17 (.cons (.var 0) .nil)))
    .nil))⟩
/-- is_less(one, other) -/
def f_is_less : Fn := ⟨2, 2,
    (.cons (.expr (.call 8 (.cons (.var 0) (.cons (.var 1) .nil))))
    (.cons (.ret (.call 16 (.cons (.var 0) (.cons (.var 1) .nil))))
    .nil))⟩
/-- _law_start(script, seed, cell) -/
def f__law_start : Fn := ⟨1, 3,
    (.cons (.asg (.name 1) (.lit (.int (7))))
    (.cons (.forr (.name 2) (.val (.slice (.var 0) .none (.some (.lit (.int (63)))))) (.cons (.asg (.name 1) (.op2 .Add (.op2 .Mod (.blt .int (.cons (.op2 .Add (.op2 .Mult (.var 1) (.lit (.int (48271)))) (.var 2)) .nil)) (.lit (.int (2147483629)))) (.lit (.int (1)))))
    .nil))
    (.cons (.ret (.alloc (.lst (.cons (.alloc (.lc [2] (.name 2) (.val (.slice (.var 0) .none (.some (.lit (.int (63)))))) .none (.blt .abs (.cons (.blt .int (.cons (.var 2) .nil)) .nil)))) (.cons (.lit (.int (0))) (.cons (.lit (.int (0))) (.cons (.lit (.int (0))) (.cons (.var 1) (.cons (.lit (.int (0))) .nil)))))))))
    .nil)))⟩
/-- _law_draw(state, many, found) -/
def f__law_draw : Fn := ⟨2, 3,
    (.cons (.ifs (.and (.cmp .Eq (.sub (.var 0) (.lit (.int (3)))) (.lit (.int (0)))) (.cmp .Lt (.sub (.var 0) (.lit (.int (1)))) (.blt .len (.cons (.sub (.var 0) (.lit (.int (0)))) .nil)))) (.cons (.asg (.tup (.cons (.sub (.var 0) (.lit (.int (2)))) (.cons (.sub (.var 0) (.lit (.int (3)))) (.cons (.sub (.var 0) (.lit (.int (1)))) .nil)))) (.tup (.cons (.sub (.sub (.var 0) (.lit (.int (0)))) (.sub (.var 0) (.lit (.int (1))))) (.cons (.lit (.int (60))) (.cons (.op2 .Add (.sub (.var 0) (.lit (.int (1)))) (.lit (.int (1)))) .nil)))))
    .nil) .nil)
    (.cons (.ifs (.cmp .Gt (.sub (.var 0) (.lit (.int (3)))) (.lit (.int (0)))) (.cons (.asg (.name 2) (.op2 .Mod (.blt .int (.cons (.sub (.var 0) (.lit (.int (2)))) .nil)) (.var 1)))
    (.cons (.asg (.sub (.var 0) (.lit (.int (2)))) (.op2 .FloorDiv (.sub (.var 0) (.lit (.int (2)))) (.var 1)))
    (.cons (.asg (.sub (.var 0) (.lit (.int (3)))) (.ite (.cmp .Gt (.sub (.var 0) (.lit (.int (2)))) (.lit (.int (0)))) (.op2 .Sub (.sub (.var 0) (.lit (.int (3)))) (.lit (.int (1)))) (.lit (.int (0)))))
    (.cons (.ret (.var 2))
    .nil)))) .nil)
    (.cons (.asg (.sub (.var 0) (.lit (.int (5)))) (.op2 .Add (.sub (.var 0) (.lit (.int (5)))) (.lit (.int (1)))))
    (.cons (.asg (.sub (.var 0) (.lit (.int (4)))) (.op2 .Mod (.blt .int (.cons (.op2 .Add (.op2 .Add (.op2 .Mult (.sub (.var 0) (.lit (.int (4)))) (.lit (.int (48271)))) (.op2 .Mult (.op2 .Mult (.sub (.var 0) (.lit (.int (5)))) (.sub (.var 0) (.lit (.int (5))))) (.lit (.int (69621))))) (.lit (.int (11)))) .nil)) (.lit (.int (2147483647)))))
    (.cons (.ret (.op2 .Mod (.blt .int (.cons (.op2 .FloorDiv (.sub (.var 0) (.lit (.int (4)))) (.lit (.int (13)))) .nil)) (.var 1)))
    .nil)))))⟩
/-- _law_same(actual, due) -/
def f__law_same : Fn := ⟨2, 2,
    (.cons (.ret (.and (.cmp .Eq (.var 0) (.var 1)) (.cmp .Eq (.blt .repr (.cons (.var 0) .nil)) (.blt .repr (.cons (.var 1) .nil)))))
    .nil)⟩
/-- _law_quotient(up, down, a, b) -/
def f__law_quotient : Fn := ⟨2, 4,
    (.cons (.asg (.tup (.cons (.name 2) (.cons (.name 3) .nil))) (.tup (.cons (.blt .abs (.cons (.var 0) .nil)) (.cons (.blt .abs (.cons (.var 1) .nil)) .nil))))
    (.cons (.whil (.var 3) (.cons (.asg (.tup (.cons (.name 2) (.cons (.name 3) .nil))) (.tup (.cons (.var 3) (.cons (.op2 .Sub (.var 2) (.op2 .Mult (.op2 .FloorDiv (.var 2) (.var 3)) (.var 3))) .nil))))
    .nil))
    (.cons (.asg (.name 2) (.bltT .max (.lst (.cons (.var 2) (.cons (.lit (.int (1))) .nil)))))
    (.cons (.ret (.ite (.cmp .Gt (.var 1) (.lit (.int (0)))) (.tup (.cons (.op2 .FloorDiv (.var 0) (.var 2)) (.cons (.op2 .FloorDiv (.var 1) (.var 2)) .nil))) (.tup (.cons (.op2 .Sub (.lit (.int (0))) (.op2 .FloorDiv (.var 0) (.var 2))) (.cons (.op2 .Sub (.lit (.int (0))) (.op2 .FloorDiv (.var 1) (.var 2))) .nil)))))
    .nil))))⟩
/-- _law_added(rows, own, up, down) -/
def f__law_added : Fn := ⟨1, 4,
    (.cons (.asg (.tup (.cons (.name 2) (.cons (.name 3) .nil))) (.tup (.cons (.lit (.int (0))) (.cons (.lit (.int (1))) .nil))))
    (.cons (.forr (.name 1) (.val (.var 0)) (.cons (.asg (.tup (.cons (.name 2) (.cons (.name 3) .nil))) (.call 28 (.cons (.op2 .Add (.op2 .Mult (.var 2) (.sub (.var 1) (.lit (.int (1))))) (.op2 .Mult (.sub (.var 1) (.lit (.int (0)))) (.var 3))) (.cons (.op2 .Mult (.var 3) (.sub (.var 1) (.lit (.int (1))))) .nil))))
    .nil))
    (.cons (.ret (.tup (.cons (.var 2) (.cons (.var 3) .nil))))
    .nil)))⟩
/-- _law_sum(one, other) -/
def f__law_sum : Fn := ⟨2, 2,
    (.cons (.ret (.call 28 (.cons (.op2 .Add (.op2 .Mult (.sub (.var 0) (.lit (.int (0)))) (.sub (.var 1) (.lit (.int (1))))) (.op2 .Mult (.sub (.var 1) (.lit (.int (0)))) (.sub (.var 0) (.lit (.int (1)))))) (.cons (.op2 .Mult (.sub (.var 0) (.lit (.int (1)))) (.sub (.var 1) (.lit (.int (1))))) .nil))))
    .nil)⟩
/-- _law_turned(one) -/
def f__law_turned : Fn := ⟨1, 1,
    (.cons (.ret (.tup (.cons (.op2 .Sub (.lit (.int (0))) (.sub (.var 0) (.lit (.int (0))))) (.cons (.sub (.var 0) (.lit (.int (1)))) .nil))))
    .nil)⟩
/-- _law_product(one, other) -/
def f__law_product : Fn := ⟨2, 2,
    (.cons (.ret (.call 28 (.cons (.op2 .Mult (.sub (.var 0) (.lit (.int (0)))) (.sub (.var 1) (.lit (.int (0))))) (.cons (.op2 .Mult (.sub (.var 0) (.lit (.int (1)))) (.sub (.var 1) (.lit (.int (1))))) .nil))))
    .nil)⟩
/-- _law_over(one, other) -/
def f__law_over : Fn := ⟨2, 2,
    (.cons (.ret (.call 28 (.cons (.op2 .Mult (.sub (.var 0) (.lit (.int (0)))) (.sub (.var 1) (.lit (.int (1))))) (.cons (.op2 .Mult (.sub (.var 0) (.lit (.int (1)))) (.sub (.var 1) (.lit (.int (0))))) .nil))))
    .nil)⟩
/-- _law_less(one, other) -/
def f__law_less : Fn := ⟨2, 2,
    (.cons (.ret (.cmp .Lt (.op2 .Mult (.sub (.var 0) (.lit (.int (0)))) (.sub (.var 1) (.lit (.int (1))))) (.op2 .Mult (.sub (.var 1) (.lit (.int (0)))) (.sub (.var 0) (.lit (.int (1)))))))
    .nil)⟩
/-- _law_drawn(state, up) -/
def f__law_drawn : Fn := ⟨1, 2,
    (.cons (.asg (.name 1) (.ite (.call 26 (.cons (.var 0) (.cons (.lit (.int (3))) .nil))) (.op2 .Sub (.call 26 (.cons (.var 0) (.cons (.lit (.int (41))) .nil))) (.lit (.int (20)))) (.op2 .Sub (.call 26 (.cons (.var 0) (.cons (.op2 .Pow (.lit (.int (10))) (.lit (.int (40)))) .nil))) (.op2 .Pow (.lit (.int (10))) (.lit (.int (39)))))))
    (.cons (.ret (.call 28 (.cons (.var 1) (.cons (.op2 .Add (.lit (.int (1))) (.ite (.call 26 (.cons (.var 0) (.cons (.lit (.int (3))) .nil))) (.call 26 (.cons (.var 0) (.cons (.lit (.int (12))) .nil))) (.call 26 (.cons (.var 0) (.cons (.op2 .Pow (.lit (.int (10))) (.lit (.int (40)))) .nil))))) .nil))))
    .nil))⟩
/-- _law_raised_to(one, many, found, turn) -/
def f__law_raised_to : Fn := ⟨2, 4,
    (.cons (.asg (.name 2) (.tup (.cons (.lit (.int (1))) (.cons (.lit (.int (1))) .nil))))
    (.cons (.forr (.name 3) (.rng1 (.blt .abs (.cons (.var 1) .nil))) (.cons (.asg (.name 2) (.call 32 (.cons (.var 2) (.cons (.var 0) .nil))))
    .nil))
    (.cons (.ret (.ite (.cmp .GtE (.var 1) (.lit (.int (0)))) (.var 2) (.call 33 (.cons (.tup (.cons (.lit (.int (1))) (.cons (.lit (.int (1))) .nil))) (.cons (.var 2) .nil)))))
    .nil)))⟩
/-- law(script, state, turn, many, rows, one, other, up, down, k) -/
def f_law : Fn := ⟨1, 10,
    (.cons (.asg (.name 1) (.call 25 (.cons (.var 0) .nil)))
    (.cons (.forr (.name 2) (.rng1 (.lit (.int (12)))) (.cons (.asg (.tup (.cons (.name 5) (.cons (.name 6) .nil))) (.tup (.cons (.call 35 (.cons (.var 1) .nil)) (.cons (.call 35 (.cons (.var 1) .nil)) .nil))))
    (.cons (.ifs (.or (.not (.call 27 (.cons (.call 18 (.cons (.var 5) (.cons (.var 6) .nil))) (.cons (.call 30 (.cons (.var 5) (.cons (.var 6) .nil))) .nil)))) (.not (.call 27 (.cons (.call 19 (.cons (.var 5) (.cons (.var 6) .nil))) (.cons (.call 30 (.cons (.var 5) (.cons (.call 31 (.cons (.var 6) .nil)) .nil))) .nil))))) (.cons (.ret (.lit (.bl false)))
    .nil) .nil)
    (.cons (.ifs (.or (.not (.call 27 (.cons (.call 20 (.cons (.var 5) (.cons (.var 6) .nil))) (.cons (.call 32 (.cons (.var 5) (.cons (.var 6) .nil))) .nil)))) (.or (.cmp .NotEq (.call 24 (.cons (.var 5) (.cons (.var 6) .nil))) (.call 34 (.cons (.var 5) (.cons (.var 6) .nil)))) (.call 24 (.cons (.var 5) (.cons (.var 5) .nil))))) (.cons (.ret (.lit (.bl false)))
    .nil) .nil)
    (.cons (.ifs (.and (.cmp .NotEq (.var 6) (.tup (.cons (.lit (.int (0))) (.cons (.lit (.int (1))) .nil)))) (.not (.call 27 (.cons (.call 21 (.cons (.var 5) (.cons (.var 6) .nil))) (.cons (.call 33 (.cons (.var 5) (.cons (.var 6) .nil))) .nil))))) (.cons (.ret (.lit (.bl false)))
    .nil) .nil)
    (.cons (.asg (.name 3) (.op2 .Sub (.call 26 (.cons (.var 1) (.cons (.lit (.int (11))) .nil))) (.lit (.int (5)))))
    (.cons (.ifs (.and (.or (.cmp .GtE (.var 3) (.lit (.int (0)))) (.cmp .NotEq (.var 5) (.tup (.cons (.lit (.int (0))) (.cons (.lit (.int (1))) .nil))))) (.not (.call 27 (.cons (.call 22 (.cons (.var 5) (.cons (.var 3) .nil))) (.cons (.call 36 (.cons (.var 5) (.cons (.var 3) .nil))) .nil))))) (.cons (.ret (.lit (.bl false)))
    .nil) .nil)
    (.cons (.asg (.name 4) (.bltT .tup (.lc [9] (.name 9) (.rng1 (.call 26 (.cons (.var 1) (.cons (.lit (.int (7))) .nil)))) .none (.call 35 (.cons (.var 1) .nil)))))
    (.cons (.ifs (.not (.call 27 (.cons (.call 23 (.cons (.var 4) .nil)) (.cons (.call 29 (.cons (.var 4) .nil)) .nil)))) (.cons (.ret (.lit (.bl false)))
    .nil) .nil)
    (.cons (.asg (.tup (.cons (.name 7) (.cons (.name 8) .nil))) (.tup (.cons (.op2 .Sub (.call 26 (.cons (.var 1) (.cons (.lit (.int (200))) .nil))) (.lit (.int (100)))) (.cons (.op2 .Sub (.call 26 (.cons (.var 1) (.cons (.lit (.int (60))) .nil))) (.lit (.int (30)))) .nil))))
    (.cons (.ifs (.and (.var 8) (.not (.call 27 (.cons (.call 9 (.cons (.var 7) (.cons (.var 8) .nil))) (.cons (.call 28 (.cons (.var 7) (.cons (.var 8) .nil))) .nil))))) (.cons (.ret (.lit (.bl false)))
    .nil) .nil)
    (.cons (.ifs (.or (.cmp .NotEq (.call 22 (.cons (.tup (.cons (.lit (.int (0))) (.cons (.lit (.int (1))) .nil))) (.cons (.lit (.int (0))) .nil))) (.tup (.cons (.lit (.int (1))) (.cons (.lit (.int (1))) .nil)))) (.or (.cmp .NotEq (.call 23 (.cons (.tup .nil) .nil)) (.tup (.cons (.lit (.int (0))) (.cons (.lit (.int (1))) .nil)))) (.cmp .NotEq (.call 9 (.cons (.lit (.int (0))) (.cons (.op2 .Sub (.lit (.int (0))) (.lit (.int (7)))) .nil))) (.tup (.cons (.lit (.int (0))) (.cons (.lit (.int (1))) .nil)))))) (.cons (.ret (.lit (.bl false)))
    .nil) .nil)
    .nil))))))))))))
    (.cons (.ret (.lit (.bl true)))
    .nil)))⟩
def tabl : Tab where
  fns := ("is_integer" : Str) :: ("is_told" : Str) :: ("to_power" : Str) :: ("made" : Str) :: ("is_great" : Str) :: ("is_any" : Str) :: ("is_quotient" : Str) :: ("check_quotient" : Str) :: ("check_two" : Str) :: ("quotient" : Str) :: ("added" : Str) :: ("turned" : Str) :: ("taken" : Str) :: ("product" : Str) :: ("divided" : Str) :: ("raised" : Str) :: ("below" : Str) :: ("summed" : Str) :: ("plus" : Str) :: ("minus" : Str) :: ("times" : Str) :: ("over" : Str) :: ("power" : Str) :: ("total" : Str) :: ("is_less" : Str) :: ("_law_start" : Str) :: ("_law_draw" : Str) :: ("_law_same" : Str) :: ("_law_quotient" : Str) :: ("_law_added" : Str) :: ("_law_sum" : Str) :: ("_law_turned" : Str) :: ("_law_product" : Str) :: ("_law_over" : Str) :: ("_law_less" : Str) :: ("_law_drawn" : Str) :: ("_law_raised_to" : Str) :: ("law" : Str) :: []
  free := ("abs" : Str) :: ("all" : Str) :: ("bool" : Str) :: ("int" : Str) :: ("isinstance" : Str) :: ("len" : Str) :: ("max" : Str) :: ("range" : Str) :: ("repr" : Str) :: ("tuple" : Str) :: []
  bfn := [("gcd", "math.gcd")]
  cons := (("BEYOND" : Str), c_BEYOND) :: (("ONE" : Str), c_ONE) :: (("ZERO" : Str), c_ZERO) :: []
def prg : List Fn := f_is_integer :: f_is_told :: f_to_power :: f_made :: f_is_great :: f_is_any :: f_is_quotient :: f_check_quotient :: f_check_two :: f_quotient :: f_added :: f_turned :: f_taken :: f_product :: f_divided :: f_raised :: f_below :: f_summed :: f_plus :: f_minus :: f_times :: f_over :: f_power :: f_total :: f_is_less :: f__law_start :: f__law_draw :: f__law_same :: f__law_quotient :: f__law_added :: f__law_sum :: f__law_turned :: f__law_product :: f__law_over :: f__law_less :: f__law_drawn :: f__law_raised_to :: f_law :: []
def sts : List Stmt := top 6 :: top 7 :: top 8 :: top 12 :: top 13 :: top 14 :: top 15 :: top 16 :: top 17 :: top 18 :: top 19 :: top 20 :: top 21 :: top 22 :: top 23 :: top 24 :: top 25 :: top 26 :: top 27 :: top 28 :: top 29 :: top 30 :: top 31 :: top 32 :: top 33 :: top 35 :: top 36 :: top 37 :: top 38 :: top 39 :: top 40 :: top 41 :: top 42 :: top 43 :: top 44 :: top 45 :: top 46 :: top 47 :: []
theorem k_is_integer : Part tabl (("value" : Str) :: []) f_is_integer (top 6) := ⟨by decide +kernel, fun _ _ _ _ _ _ _ _ _ _ us hl => match us, hl with | [_], _ => rfl⟩
theorem k_is_told : Part tabl (("value" : Str) :: []) f_is_told (top 7) := ⟨by decide +kernel, fun _ _ _ _ _ _ _ _ _ _ us hl => match us, hl with | [_], _ => rfl⟩
theorem k_to_power : Part tabl (("value" : Str) :: ("many" : Str) :: ("found" : Str) :: ("turn" : Str) :: []) f_to_power (top 8) := ⟨by decide +kernel, fun _ _ _ _ _ _ _ _ _ _ us hl => match us, hl with | [_, _], _ => rfl⟩
theorem k_made : Part tabl (("up" : Str) :: ("down" : Str) :: ("common" : Str) :: []) f_made (top 12) := ⟨by decide +kernel, fun _ _ _ _ _ _ _ _ _ _ us hl => match us, hl with | [_, _], _ => rfl⟩
theorem k_is_great : Part tabl (("value" : Str) :: []) f_is_great (top 13) := ⟨by decide +kernel, fun _ _ _ _ _ _ _ _ _ _ us hl => match us, hl with | [_], _ => rfl⟩
theorem k_is_any : Part tabl (("value" : Str) :: ("own" : Str) :: []) f_is_any (top 14) := ⟨by decide +kernel, fun _ _ _ _ _ _ _ _ _ _ us hl => match us, hl with | [_], _ => rfl⟩
theorem k_is_quotient : Part tabl (("value" : Str) :: []) f_is_quotient (top 15) := ⟨by decide +kernel, fun _ _ _ _ _ _ _ _ _ _ us hl => match us, hl with | [_], _ => rfl⟩
theorem k_check_quotient : Part tabl (("value" : Str) :: ("reason" : Str) :: []) f_check_quotient (top 16) := ⟨by decide +kernel, fun _ _ _ _ _ _ _ _ _ _ us hl => match us, hl with | [_, _], _ => rfl⟩
theorem k_check_two : Part tabl (("one" : Str) :: ("other" : Str) :: []) f_check_two (top 17) := ⟨by decide +kernel, fun _ _ _ _ _ _ _ _ _ _ us hl => match us, hl with | [_, _], _ => rfl⟩
theorem k_quotient : Part tabl (("up" : Str) :: ("down" : Str) :: []) f_quotient (top 18) := ⟨by decide +kernel, fun _ _ _ _ _ _ _ _ _ _ us hl => match us, hl with | [_, _], _ => rfl⟩
theorem k_added : Part tabl (("one" : Str) :: ("other" : Str) :: []) f_added (top 19) := ⟨by decide +kernel, fun _ _ _ _ _ _ _ _ _ _ us hl => match us, hl with | [_, _], _ => rfl⟩
theorem k_turned : Part tabl (("one" : Str) :: []) f_turned (top 20) := ⟨by decide +kernel, fun _ _ _ _ _ _ _ _ _ _ us hl => match us, hl with | [_], _ => rfl⟩
theorem k_taken : Part tabl (("one" : Str) :: ("other" : Str) :: []) f_taken (top 21) := ⟨by decide +kernel, fun _ _ _ _ _ _ _ _ _ _ us hl => match us, hl with | [_, _], _ => rfl⟩
theorem k_product : Part tabl (("one" : Str) :: ("other" : Str) :: []) f_product (top 22) := ⟨by decide +kernel, fun _ _ _ _ _ _ _ _ _ _ us hl => match us, hl with | [_, _], _ => rfl⟩
theorem k_divided : Part tabl (("one" : Str) :: ("other" : Str) :: []) f_divided (top 23) := ⟨by decide +kernel, fun _ _ _ _ _ _ _ _ _ _ us hl => match us, hl with | [_, _], _ => rfl⟩
theorem k_raised : Part tabl (("one" : Str) :: ("many" : Str) :: []) f_raised (top 24) := ⟨by decide +kernel, fun _ _ _ _ _ _ _ _ _ _ us hl => match us, hl with | [_, _], _ => rfl⟩
theorem k_below : Part tabl (("one" : Str) :: ("other" : Str) :: []) f_below (top 25) := ⟨by decide +kernel, fun _ _ _ _ _ _ _ _ _ _ us hl => match us, hl with | [_, _], _ => rfl⟩
theorem k_summed : Part tabl (("rows" : Str) :: ("found" : Str) :: ("own" : Str) :: []) f_summed (top 26) := ⟨by decide +kernel, fun _ _ _ _ _ _ _ _ _ _ us hl => match us, hl with | [_], _ => rfl⟩
theorem k_plus : Part tabl (("one" : Str) :: ("other" : Str) :: []) f_plus (top 27) := ⟨by decide +kernel, fun _ _ _ _ _ _ _ _ _ _ us hl => match us, hl with | [_, _], _ => rfl⟩
theorem k_minus : Part tabl (("one" : Str) :: ("other" : Str) :: []) f_minus (top 28) := ⟨by decide +kernel, fun _ _ _ _ _ _ _ _ _ _ us hl => match us, hl with | [_, _], _ => rfl⟩
theorem k_times : Part tabl (("one" : Str) :: ("other" : Str) :: []) f_times (top 29) := ⟨by decide +kernel, fun _ _ _ _ _ _ _ _ _ _ us hl => match us, hl with | [_, _], _ => rfl⟩
theorem k_over : Part tabl (("one" : Str) :: ("other" : Str) :: []) f_over (top 30) := ⟨by decide +kernel, fun _ _ _ _ _ _ _ _ _ _ us hl => match us, hl with | [_, _], _ => rfl⟩
theorem k_power : Part tabl (("one" : Str) :: ("many" : Str) :: []) f_power (top 31) := ⟨by decide +kernel, fun _ _ _ _ _ _ _ _ _ _ us hl => match us, hl with | [_, _], _ => rfl⟩
theorem k_total : Part tabl (("rows" : Str) :: ("own" : Str) :: []) f_total (top 32) := ⟨by decide +kernel, fun _ _ _ _ _ _ _ _ _ _ us hl => match us, hl with | [_], _ => rfl⟩
theorem k_is_less : Part tabl (("one" : Str) :: ("other" : Str) :: []) f_is_less (top 33) := ⟨by decide +kernel, fun _ _ _ _ _ _ _ _ _ _ us hl => match us, hl with | [_, _], _ => rfl⟩
theorem k__law_start : Part tabl (("script" : Str) :: ("seed" : Str) :: ("cell" : Str) :: []) f__law_start (top 35) := ⟨by decide +kernel, fun _ _ _ _ _ _ _ _ _ _ us hl => match us, hl with | [_], _ => rfl⟩
theorem k__law_draw : Part tabl (("state" : Str) :: ("many" : Str) :: ("found" : Str) :: []) f__law_draw (top 36) := ⟨by decide +kernel, fun _ _ _ _ _ _ _ _ _ _ us hl => match us, hl with | [_, _], _ => rfl⟩
theorem k__law_same : Part tabl (("actual" : Str) :: ("due" : Str) :: []) f__law_same (top 37) := ⟨by decide +kernel, fun _ _ _ _ _ _ _ _ _ _ us hl => match us, hl with | [_, _], _ => rfl⟩
theorem k__law_quotient : Part tabl (("up" : Str) :: ("down" : Str) :: ("a" : Str) :: ("b" : Str) :: []) f__law_quotient (top 38) := ⟨by decide +kernel, fun _ _ _ _ _ _ _ _ _ _ us hl => match us, hl with | [_, _], _ => rfl⟩
theorem k__law_added : Part tabl (("rows" : Str) :: ("own" : Str) :: ("up" : Str) :: ("down" : Str) :: []) f__law_added (top 39) := ⟨by decide +kernel, fun _ _ _ _ _ _ _ _ _ _ us hl => match us, hl with | [_], _ => rfl⟩
theorem k__law_sum : Part tabl (("one" : Str) :: ("other" : Str) :: []) f__law_sum (top 40) := ⟨by decide +kernel, fun _ _ _ _ _ _ _ _ _ _ us hl => match us, hl with | [_, _], _ => rfl⟩
theorem k__law_turned : Part tabl (("one" : Str) :: []) f__law_turned (top 41) := ⟨by decide +kernel, fun _ _ _ _ _ _ _ _ _ _ us hl => match us, hl with | [_], _ => rfl⟩
theorem k__law_product : Part tabl (("one" : Str) :: ("other" : Str) :: []) f__law_product (top 42) := ⟨by decide +kernel, fun _ _ _ _ _ _ _ _ _ _ us hl => match us, hl with | [_, _], _ => rfl⟩
theorem k__law_over : Part tabl (("one" : Str) :: ("other" : Str) :: []) f__law_over (top 43) := ⟨by decide +kernel, fun _ _ _ _ _ _ _ _ _ _ us hl => match us, hl with | [_, _], _ => rfl⟩
theorem k__law_less : Part tabl (("one" : Str) :: ("other" : Str) :: []) f__law_less (top 44) := ⟨by decide +kernel, fun _ _ _ _ _ _ _ _ _ _ us hl => match us, hl with | [_, _], _ => rfl⟩
theorem k__law_drawn : Part tabl (("state" : Str) :: ("up" : Str) :: []) f__law_drawn (top 45) := ⟨by decide +kernel, fun _ _ _ _ _ _ _ _ _ _ us hl => match us, hl with | [_], _ => rfl⟩
theorem k__law_raised_to : Part tabl (("one" : Str) :: ("many" : Str) :: ("found" : Str) :: ("turn" : Str) :: []) f__law_raised_to (top 46) := ⟨by decide +kernel, fun _ _ _ _ _ _ _ _ _ _ us hl => match us, hl with | [_, _], _ => rfl⟩
theorem k_law : Part tabl (("script" : Str) :: ("state" : Str) :: ("turn" : Str) :: ("many" : Str) :: ("rows" : Str) :: ("one" : Str) :: ("other" : Str) :: ("up" : Str) :: ("down" : Str) :: ("k" : Str) :: []) f_law (top 47) := ⟨by decide +kernel, fun _ _ _ _ _ _ _ _ _ _ us hl => match us, hl with | [_], _ => rfl⟩
theorem parts : Parts tabl tabl.fns sts prg := (.cons k_is_integer (.cons k_is_told (.cons k_to_power (.cons k_made (.cons k_is_great (.cons k_is_any (.cons k_is_quotient (.cons k_check_quotient (.cons k_check_two (.cons k_quotient (.cons k_added (.cons k_turned (.cons k_taken (.cons k_product (.cons k_divided (.cons k_raised (.cons k_below (.cons k_summed (.cons k_plus (.cons k_minus (.cons k_times (.cons k_over (.cons k_power (.cons k_total (.cons k_is_less (.cons k__law_start (.cons k__law_draw (.cons k__law_same (.cons k__law_quotient (.cons k__law_added (.cons k__law_sum (.cons k__law_turned (.cons k__law_product (.cons k__law_over (.cons k__law_less (.cons k__law_drawn (.cons k__law_raised_to (.cons k_law .nil))))))))))))))))))))))))))))))))))))))
-- 0 is_integer
-- 1 is_told
-- 2 to_power
-- 3 made
-- 4 is_great
-- 5 is_any
-- 6 is_quotient
-- 7 check_quotient
-- 8 check_two
-- 9 quotient
-- 10 added
-- 11 turned
-- 12 taken
-- 13 product
-- 14 divided
-- 15 raised
-- 16 below
-- 17 summed
-- 18 plus
-- 19 minus
-- 20 times
-- 21 over
-- 22 power
-- 23 total
-- 24 is_less
-- 25 _law_start
-- 26 _law_draw
-- 27 _law_same
-- 28 _law_quotient
-- 29 _law_added
-- 30 _law_sum
-- 31 _law_turned
-- 32 _law_product
-- 33 _law_over
-- 34 _law_less
-- 35 _law_drawn
-- 36 _law_raised_to
-- 37 law
end RV.K00
set_option Elab.async false
set_option linter.all false
set_option maxRecDepth 100000
set_option autoImplicit false
set_option maxHeartbeats 4000000
/-! Law 0: what the laws' own defs share. -/
namespace RV
open PySem PySem.Spec PyProof.Rows L2
/-- a call, by its body -/
def fin (h : AH) (fl : Fl) (h' : AH) : R D := match fl with
  | .rt d => sweep h d h'
  | .nx _ => sweep h .non h'
  | _ => .bad
theorem evC_at {P : List Fn} {k j : Nat} {fn : Fn} {ds : List D} {h : AH} (hP : P[j]? = some fn) (hl : ds.length = fn.np) : evC P (k + 1) j ds h = (evSs (evC P k) fn.body (ds.map some ++ List.replicate (fn.nn - fn.np) none) h).bind (fin h) := by
  simp only [evC, hP]
  rw [if_pos hl]
  rfl
theorem sweep_len {h h' : AH} {d : D} (e : h'.length = h.length) : sweep h d h' = .ok d h' := by
  unfold sweep
  split
  · rename_i c
    rw [← c.1, ← e, List.take_length]
  · rfl
@[simp] theorem sweep_self {h : AH} {d : D} : sweep h d h = .ok d h := sweep_len rfl
/-- the values drawn from: n's cell holds m, then five ints -/
def StOk (h : AH) (n m B : Nat) : Prop := ∃ (xs : List Int) (p v c s t : Int), h[n]? = some (.lst [.ref m, .int p, .int v, .int c, .int s, .int t]) ∧ h[m]? = some (.lst (xs.map .int)) ∧ n ≠ m ∧ 0 ≤ p ∧ 0 ≤ s ∧ s < 2147483648 ∧ 0 ≤ t ∧ t ≤ B
def drawB : CSs :=
    (.cons (.ifs (.and (.cmp .Eq (.sub (.var 0) (.lit (.int (3)))) (.lit (.int (0)))) (.cmp .Lt (.sub (.var 0) (.lit (.int (1)))) (.blt .len (.cons (.sub (.var 0) (.lit (.int (0)))) .nil)))) (.cons (.asg (.tup (.cons (.sub (.var 0) (.lit (.int (2)))) (.cons (.sub (.var 0) (.lit (.int (3)))) (.cons (.sub (.var 0) (.lit (.int (1)))) .nil)))) (.tup (.cons (.sub (.sub (.var 0) (.lit (.int (0)))) (.sub (.var 0) (.lit (.int (1))))) (.cons (.lit (.int (60))) (.cons (.op2 .Add (.sub (.var 0) (.lit (.int (1)))) (.lit (.int (1)))) .nil)))))
    .nil) .nil)
    (.cons (.ifs (.cmp .Gt (.sub (.var 0) (.lit (.int (3)))) (.lit (.int (0)))) (.cons (.asg (.name 2) (.op2 .Mod (.blt .int (.cons (.sub (.var 0) (.lit (.int (2)))) .nil)) (.var 1)))
    (.cons (.asg (.sub (.var 0) (.lit (.int (2)))) (.op2 .FloorDiv (.sub (.var 0) (.lit (.int (2)))) (.var 1)))
    (.cons (.asg (.sub (.var 0) (.lit (.int (3)))) (.ite (.cmp .Gt (.sub (.var 0) (.lit (.int (2)))) (.lit (.int (0)))) (.op2 .Sub (.sub (.var 0) (.lit (.int (3)))) (.lit (.int (1)))) (.lit (.int (0)))))
    (.cons (.ret (.var 2))
    .nil)))) .nil)
    (.cons (.asg (.sub (.var 0) (.lit (.int (5)))) (.op2 .Add (.sub (.var 0) (.lit (.int (5)))) (.lit (.int (1)))))
    (.cons (.asg (.sub (.var 0) (.lit (.int (4)))) (.op2 .Mod (.blt .int (.cons (.op2 .Add (.op2 .Add (.op2 .Mult (.sub (.var 0) (.lit (.int (4)))) (.lit (.int (48271)))) (.op2 .Mult (.op2 .Mult (.sub (.var 0) (.lit (.int (5)))) (.sub (.var 0) (.lit (.int (5))))) (.lit (.int (69621))))) (.lit (.int (11)))) .nil)) (.lit (.int (2147483647)))))
    (.cons (.ret (.op2 .Mod (.blt .int (.cons (.op2 .FloorDiv (.sub (.var 0) (.lit (.int (4)))) (.lit (.int (13)))) .nil)) (.var 1)))
    .nil)))))
theorem at6 {a0 a1 a2 a3 a4 a5 : D} : L2.atI [a0, a1, a2, a3, a4, a5] 0 = some a0 ∧ L2.atI [a0, a1, a2, a3, a4, a5] 1 = some a1 ∧ L2.atI [a0, a1, a2, a3, a4, a5] 2 = some a2 ∧ L2.atI [a0, a1, a2, a3, a4, a5] 3 = some a3 ∧ L2.atI [a0, a1, a2, a3, a4, a5] 4 = some a4 ∧ L2.atI [a0, a1, a2, a3, a4, a5] 5 = some a5 := ⟨rfl, rfl, rfl, rfl, rfl, rfl⟩
theorem ix6 : L2.ixN 6 0 = some 0 ∧ L2.ixN 6 1 = some 1 ∧ L2.ixN 6 2 = some 2 ∧ L2.ixN 6 3 = some 3 ∧ L2.ixN 6 4 = some 4 ∧ L2.ixN 6 5 = some 5 := ⟨rfl, rfl, rfl, rfl, rfl, rfl⟩
theorem lt_big {i : Int} (h : i.natAbs < 2 ^ 8000) : i.natAbs < BIG := Nat.lt_trans h (Nat.pow_lt_pow_right (by decide) (by decide))
theorem lt_dbig {i : Int} (h : i.natAbs < 2 ^ 8000) : i.natAbs < DBIG := Nat.lt_trans h (Nat.pow_lt_pow_right (by decide) (by decide))
theorem lt_pw {i : Int} {a : Nat} (h : i.natAbs < a) (ha : a ≤ 2 ^ 8000) : i.natAbs < 2 ^ 8000 := Nat.lt_of_lt_of_le h ha
end RV
set_option Elab.async false
set_option linter.all false
set_option maxRecDepth 100000
set_option autoImplicit false
set_option maxHeartbeats 4000000
namespace RV
open PySem PySem.Spec PyProof.Rows L2
theorem subP_ref {h : AH} {n : Nat} {l : List D} {i : Int} {d : D} (e : h[n]? = some (.lst l)) (q : L2.atI l i = some d) : subP (.ref n) (.int i) h = .ok d h := by
  simp only [subP, seqOf, e, q]
theorem setP_ref {h : AH} {n : Nat} {l : List D} {i : Int} {j : Nat} {d : D} (e : h[n]? = some (.lst l)) (q : L2.ixN l.length i = some j) : setP (.ref n) (.int i) d h = .ok () (h.set n (.lst (l.set j d))) := by
  simp only [setP, e, q]
theorem hset {h : AH} {n : Nat} {c c' : Cell} (e : h[n]? = some c) : (h.set n c')[n]? = some c' := List.getElem?_set_self (List.getElem?_eq_some_iff.mp e).1
theorem hset_ne {h : AH} {n m : Nat} {c : Cell} (e : n ≠ m) : (h.set n c)[m]? = h[m]? := List.getElem?_set_ne e
theorem ss_nx {call : Call} {c : CS} {cs : CSs} {env env1 : En} {h h1 : AH} (e : evS call c env h = .ok (.nx env1) h1) : evSs call (.cons c cs) env h = evSs call cs env1 h1 := by
  rw [evSs, e]
  rfl
theorem ss_rt {call : Call} {c : CS} {cs : CSs} {env : En} {h h1 : AH} {d : D} (e : evS call c env h = .ok (.rt d) h1) : evSs call (.cons c cs) env h = .ok (.rt d) h1 := by
  rw [evSs, e]
  rfl
section
variable {h : AH} {n m : Nat} {xs : List Int} {p v c s t : Int} {call : Call} {many : Int} {x : Option D}
/-- the first statement: a new cell is begun -/
theorem draw1 (e : h[n]? = some (.lst [.ref m, .int p, .int v, .int c, .int s, .int t])) (em : h[m]? = some (.lst (xs.map .int))) (nm : n ≠ m) (hp : 0 ≤ p) :
    ∃ p' v' c', 0 ≤ p' ∧ evS call (.ifs (.and (.cmp .Eq (.sub (.var 0) (.lit (.int (3)))) (.lit (.int (0)))) (.cmp .Lt (.sub (.var 0) (.lit (.int (1)))) (.blt .len (.cons (.sub (.var 0) (.lit (.int (0)))) .nil)))) (.cons (.asg (.tup (.cons (.sub (.var 0) (.lit (.int (2)))) (.cons (.sub (.var 0) (.lit (.int (3)))) (.cons (.sub (.var 0) (.lit (.int (1)))) .nil)))) (.tup (.cons (.sub (.sub (.var 0) (.lit (.int (0)))) (.sub (.var 0) (.lit (.int (1))))) (.cons (.lit (.int (60))) (.cons (.op2 .Add (.sub (.var 0) (.lit (.int (1)))) (.lit (.int (1)))) .nil)))))
    .nil) .nil) [some (.ref n), some (.int many), x] h = .ok (.nx [some (.ref n), some (.int many), x]) (h.set n (.lst [.ref m, .int p', .int v', .int c', .int s, .int t])) := by
  by_cases hc : c = 0 ∧ p < xs.length
  · obtain ⟨rfl, hl⟩ := hc
    obtain ⟨i, rfl⟩ := Int.eq_ofNat_of_zero_le hp
    have hi : i < xs.length := by omega
    refine ⟨i + 1, xs[i], 60, by omega, ?_⟩
    have ga : L2.atI (xs.map D.int) (i : Int) = some (.int xs[i]) := L2.atI_nat (by rw [List.getElem?_map, List.getElem?_eq_getElem hi]; rfl)
    simp [evS, evB, evSs, evE, evEs, evG, evGs, var, subP_ref e, at6, ofO, cmpP, deq, truthy, blt, seqOf, em, hl, subP_ref em ga, prim2, Tgs.len, SZ, setP_ref e, setP_ref (hset e), ix6, List.set, List.set_set]
  · refine ⟨p, v, c, hp, ?_⟩
    have e0 : h.set n (.lst [.ref m, .int p, .int v, .int c, .int s, .int t]) = h := by
      obtain ⟨h1, h2⟩ := List.getElem?_eq_some_iff.mp e
      rw [← h2, List.set_getElem_self]
    rw [e0]
    by_cases h0 : c = 0
    · have hl : ¬ p < xs.length := fun z => hc ⟨h0, z⟩
      simp [evS, evB, evSs, evE, evEs, var, subP_ref e, at6, ofO, cmpP, deq, truthy, blt, seqOf, em, hl, h0]
    · simp [evS, evB, evSs, evE, evEs, var, subP_ref e, at6, ofO, cmpP, deq, truthy, blt, seqOf, em, h0]
theorem draw2 (e : h[n]? = some (.lst [.ref m, .int p, .int v, .int c, .int s, .int t])) (hc : 0 < c) (h1 : 0 < many) (h2 : many.natAbs < 2 ^ 8000) :
    ∃ v' c', evSs call (.cons (.ifs (.cmp .Gt (.sub (.var 0) (.lit (.int (3)))) (.lit (.int (0)))) (.cons (.asg (.name 2) (.op2 .Mod (.blt .int (.cons (.sub (.var 0) (.lit (.int (2)))) .nil)) (.var 1)))
    (.cons (.asg (.sub (.var 0) (.lit (.int (2)))) (.op2 .FloorDiv (.sub (.var 0) (.lit (.int (2)))) (.var 1)))
    (.cons (.asg (.sub (.var 0) (.lit (.int (3)))) (.ite (.cmp .Gt (.sub (.var 0) (.lit (.int (2)))) (.lit (.int (0)))) (.op2 .Sub (.sub (.var 0) (.lit (.int (3)))) (.lit (.int (1)))) (.lit (.int (0)))))
    (.cons (.ret (.var 2))
    .nil)))) .nil)
    (.cons (.asg (.sub (.var 0) (.lit (.int (5)))) (.op2 .Add (.sub (.var 0) (.lit (.int (5)))) (.lit (.int (1)))))
    (.cons (.asg (.sub (.var 0) (.lit (.int (4)))) (.op2 .Mod (.blt .int (.cons (.op2 .Add (.op2 .Add (.op2 .Mult (.sub (.var 0) (.lit (.int (4)))) (.lit (.int (48271)))) (.op2 .Mult (.op2 .Mult (.sub (.var 0) (.lit (.int (5)))) (.sub (.var 0) (.lit (.int (5))))) (.lit (.int (69621))))) (.lit (.int (11)))) .nil)) (.lit (.int (2147483647)))))
    (.cons (.ret (.op2 .Mod (.blt .int (.cons (.op2 .FloorDiv (.sub (.var 0) (.lit (.int (4)))) (.lit (.int (13)))) .nil)) (.var 1)))
    .nil)))) [some (.ref n), some (.int many), x] h = .ok (.rt (.int (v % many))) (h.set n (.lst [.ref m, .int p, .int v', .int c', .int s, .int t])) := by
  have hd := lt_dbig h2
  by_cases hv : 0 < v / many
  · refine ⟨v / many, c - 1, ?_⟩
    simp [evS, evB, evSs, evE, evEs, evG, evGs, var, subP_ref e, at6, ofO, cmpP, deq, truthy, blt, prim2, hc, h1, hd, setP_ref e, setP_ref (hset e), subP_ref (hset e), ix6, List.set, List.set_set, hv]
  · refine ⟨v / many, 0, ?_⟩
    simp [evS, evB, evSs, evE, evEs, evG, evGs, var, subP_ref e, at6, ofO, cmpP, deq, truthy, blt, prim2, hc, h1, hd, setP_ref e, setP_ref (hset e), subP_ref (hset e), ix6, List.set, List.set_set, hv]
theorem draw3 (e : h[n]? = some (.lst [.ref m, .int p, .int v, .int c, .int s, .int t])) (hc : ¬ 0 < c) (h1 : 0 < many) (h2 : many.natAbs < 2 ^ 8000) (s0 : 0 ≤ s) (s1 : s < 2147483648) (t0 : 0 ≤ t) (t1 : t < 1000000000) :
    ∃ s', 0 ≤ s' ∧ s' < 2147483648 ∧ evSs call (.cons (.ifs (.cmp .Gt (.sub (.var 0) (.lit (.int (3)))) (.lit (.int (0)))) (.cons (.asg (.name 2) (.op2 .Mod (.blt .int (.cons (.sub (.var 0) (.lit (.int (2)))) .nil)) (.var 1)))
    (.cons (.asg (.sub (.var 0) (.lit (.int (2)))) (.op2 .FloorDiv (.sub (.var 0) (.lit (.int (2)))) (.var 1)))
    (.cons (.asg (.sub (.var 0) (.lit (.int (3)))) (.ite (.cmp .Gt (.sub (.var 0) (.lit (.int (2)))) (.lit (.int (0)))) (.op2 .Sub (.sub (.var 0) (.lit (.int (3)))) (.lit (.int (1)))) (.lit (.int (0)))))
    (.cons (.ret (.var 2))
    .nil)))) .nil)
    (.cons (.asg (.sub (.var 0) (.lit (.int (5)))) (.op2 .Add (.sub (.var 0) (.lit (.int (5)))) (.lit (.int (1)))))
    (.cons (.asg (.sub (.var 0) (.lit (.int (4)))) (.op2 .Mod (.blt .int (.cons (.op2 .Add (.op2 .Add (.op2 .Mult (.sub (.var 0) (.lit (.int (4)))) (.lit (.int (48271)))) (.op2 .Mult (.op2 .Mult (.sub (.var 0) (.lit (.int (5)))) (.sub (.var 0) (.lit (.int (5))))) (.lit (.int (69621))))) (.lit (.int (11)))) .nil)) (.lit (.int (2147483647)))))
    (.cons (.ret (.op2 .Mod (.blt .int (.cons (.op2 .FloorDiv (.sub (.var 0) (.lit (.int (4)))) (.lit (.int (13)))) .nil)) (.var 1)))
    .nil)))) [some (.ref n), some (.int many), x] h = .ok (.rt (.int (s' / 13 % many))) (h.set n (.lst [.ref m, .int p, .int v, .int c, .int s', .int (t + 1)])) := by
  have hd := lt_dbig h2
  have b1 : s.natAbs < BIG := lt_big (lt_pw (a := 2147483648) (by omega) (by decide))
  have b2 : (t + 1).natAbs < BIG := lt_big (lt_pw (a := 1000000001) (by omega) (by decide))
  have b3 : ((t + 1) * (t + 1)).natAbs < BIG := by
    rw [Int.natAbs_mul]
    refine Nat.lt_of_le_of_lt (Nat.mul_le_mul (show (t + 1).natAbs ≤ 1000000001 by omega) (show (t + 1).natAbs ≤ 1000000001 by omega)) (Nat.lt_of_lt_of_le (show 1000000001 * 1000000001 < 2 ^ 400 by decide) (Nat.pow_le_pow_right (by decide) (by decide)))
  have b4 : (48271 : Nat) < BIG := Nat.lt_of_lt_of_le (show 48271 < 2 ^ 400 by decide) (Nat.pow_le_pow_right (by decide) (by decide))
  have b5 : (69621 : Nat) < BIG := Nat.lt_of_lt_of_le (show 69621 < 2 ^ 400 by decide) (Nat.pow_le_pow_right (by decide) (by decide))
  have b6 : (2147483647 : Nat) < DBIG := Nat.lt_of_lt_of_le (show 2147483647 < 2 ^ 400 by decide) (Nat.pow_le_pow_right (by decide) (by decide))
  have b7 : (13 : Nat) < DBIG := Nat.lt_of_lt_of_le (show 13 < 2 ^ 400 by decide) (Nat.pow_le_pow_right (by decide) (by decide))
  refine ⟨(s * 48271 + (t + 1) * (t + 1) * 69621 + 11) % 2147483647, Int.emod_nonneg _ (by decide), Int.lt_trans (Int.emod_lt_of_pos _ (by decide)) (by decide), ?_⟩
  simp [evS, evB, evSs, evE, evEs, evG, evGs, var, subP_ref e, at6, ofO, cmpP, deq, truthy, blt, prim2, hc, h1, hd, setP_ref e, setP_ref (hset e), subP_ref (hset e), ix6, List.set, List.set_set, b1, b2, b3, b4, b5, b6, b7]
end
/-- f_draw(state, many) -/
theorem draw_ok {P : List Fn} {k j n m B : Nat} {h : AH} {many : Int} (hP : P[j]? = some ⟨2, 3, drawB⟩) (st : StOk h n m B) (hB : B < 1000000000) (h1 : 0 < many) (h2 : many.natAbs < 2 ^ 8000) :
    ∃ r h', evC P (k + 1) j [.ref n, .int many] h = .ok (.int r) h' ∧ 0 ≤ r ∧ r < many ∧ StOk h' n m (B + 1) ∧ h'.length = h.length ∧ ∀ q, q ≠ n → h'[q]? = h[q]? := by
  obtain ⟨xs, p, v, c, s, t, e, em, nm, hp, s0, s1, t0, t1⟩ := st
  obtain ⟨p', v', c', hp', q1⟩ := draw1 (call := evC P k) (many := many) (x := none) e em nm hp
  have e' := hset (c' := .lst [.ref m, .int p', .int v', .int c', .int s, .int t]) e
  have em' : (h.set n (.lst [.ref m, .int p', .int v', .int c', .int s, .int t]))[m]? = some (.lst (xs.map .int)) := by rw [hset_ne nm]; exact em
  have fr : ∀ (c1 c2 : Cell) (q : Nat), q ≠ n → ((h.set n c1).set n c2)[q]? = h[q]? := fun c1 c2 q hq => by rw [hset_ne (Ne.symm hq), hset_ne (Ne.symm hq)]
  rw [evC_at hP rfl]
  show ∃ r h', ((evSs (evC P k) drawB [some (.ref n), some (.int many), none] h).bind (fin h) = _) ∧ _
  unfold drawB
  rw [ss_nx q1]
  by_cases hc : 0 < c'
  · obtain ⟨v2, c2, q2⟩ := draw2 (call := evC P k) (many := many) (x := none) e' hc h1 h2
    refine ⟨v' % many, (h.set n (.lst [.ref m, .int p', .int v', .int c', .int s, .int t])).set n (.lst [.ref m, .int p', .int v2, .int c2, .int s, .int t]), ?_, Int.emod_nonneg _ (by omega), Int.emod_lt_of_pos _ h1, ⟨xs, p', v2, c2, s, t, hset e', by rw [hset_ne nm]; exact em', nm, hp', s0, s1, t0, by omega⟩, by simp, fun q hq => fr _ _ q hq⟩
    rw [q2, R.bind_ok]
    exact sweep_len (by simp)
  · obtain ⟨s', z0, z1, q2⟩ := draw3 (call := evC P k) (many := many) (x := none) e' hc h1 h2 s0 s1 t0 (by omega)
    refine ⟨s' / 13 % many, (h.set n (.lst [.ref m, .int p', .int v', .int c', .int s, .int t])).set n (.lst [.ref m, .int p', .int v', .int c', .int s', .int (t + 1)]), ?_, Int.emod_nonneg _ (by omega), Int.emod_lt_of_pos _ h1, ⟨xs, p', v', c', s', t + 1, hset e', by rw [hset_ne nm]; exact em', nm, hp', z0, z1, by omega, by omega⟩, by simp, fun q hq => fr _ _ q hq⟩
    rw [q2, R.bind_ok]
    exact sweep_len (by simp)
end RV
set_option Elab.async false
set_option linter.all false
set_option maxRecDepth 100000
set_option autoImplicit false
set_option maxHeartbeats 4000000
namespace RV
open PySem PySem.Spec PyProof.Rows L2
/-! ### quotients -/
def gBody : CSs := (.cons (.asg (.tup (.cons (.name 2) (.cons (.name 3) .nil))) (.tup (.cons (.var 3) (.cons (.op2 .Sub (.var 2) (.op2 .Mult (.op2 .FloorDiv (.var 2) (.var 3)) (.var 3))) .nil))))
    .nil)
theorem gcd_loop {call : Call} {h : AH} {u d : Option D} : ∀ (n a b : Nat), b < n → a < 2 ^ 8000 → b < 2 ^ 8000 →
    evWhile (evB call (.var 3)) (evSs call gBody) n [u, d, some (.int a), some (.int b)] h = .ok (.nx [u, d, some (.int (Nat.gcd a b : Nat)), some (.int 0)]) h
  | 0, a, b, hb, _, _ => by omega
  | n + 1, a, b, hb, ha, hb2 => by
    rw [evWhile]
    by_cases h0 : b = 0
    · subst h0
      simp [evB, evE, var, truthy, ofO]
    · have hb1 : (0 : Int) < (b : Int) := by omega
      have hd : ((b : Int)).natAbs < DBIG := lt_dbig (by simpa using hb2)
      have hB : ((b : Int)).natAbs < BIG := lt_big (by simpa using hb2)
      have hA : ((a : Int) / (b : Int)).natAbs < BIG := lt_big (by
        have : ((a : Int) / (b : Int)).natAbs = a / b := by
          rw [show (a : Int) / (b : Int) = ((a / b : Nat) : Int) by simp]
          rfl
        rw [this]
        exact Nat.lt_of_le_of_lt (Nat.div_le_self _ _) ha)
      have hm : (a : Int) - (a : Int) / (b : Int) * (b : Int) = ((a % b : Nat) : Int) := by
        rw [Int.natCast_emod, Int.emod_def, Int.mul_comm]
      have hlt := Nat.mod_lt a (Nat.pos_of_ne_zero h0)
      have ih := gcd_loop (call := call) (h := h) (u := u) (d := d) n b (a % b) (by omega) hb2 (Nat.lt_trans hlt hb2)
      have hg : Nat.gcd b (a % b) = Nat.gcd a b := by rw [Nat.gcd_comm, ← Nat.gcd_rec, Nat.gcd_comm]
      rw [hg] at ih
      have hB' : b < BIG := by simpa using hB
      have hd' : b < DBIG := by simpa using hd
      have hA' := hA
      have hm' := hm
      simp only [Int.natCast_emod] at hm' ih
      have ht : evB call (.var 3) [u, d, some (.int a), some (.int b)] h = .ok true h := by
        simp [evB, evE, var, truthy, ofO]
        omega
      have hbd : evSs call gBody [u, d, some (.int a), some (.int b)] h = .ok (.nx [u, d, some (.int b), some (.int ((a : Int) % (b : Int)))]) h := by
        unfold gBody
        simp only [evSs, evS, evE, evEs, evG, evGs, var, R.bind_ok, List.getElem?_cons_succ, List.getElem?_cons_zero, prim2, Tgs.len, List.length_cons, List.length_nil, List.set_cons_succ, List.set_cons_zero]
        rw [if_pos ⟨hb1, hd⟩]
        simp only [R.bind_ok]
        rw [if_pos ⟨hA, hB⟩]
        simp [SZ, hm']
      rw [ht, R.bind_ok, if_pos rfl, hbd, R.bind_ok]
      exact ih
/-- a quotient in its lowest terms -/
def red (u d : Int) : Int × Int := if 0 < d then (u / (Int.gcd u d : Nat), d / (Int.gcd u d : Nat)) else (-(u / (Int.gcd u d : Nat)), -(d / (Int.gcd u d : Nat)))
def qd (x : Int × Int) : D := .tup [.int x.1, .int x.2]
def quotB : CSs :=
    (.cons (.asg (.tup (.cons (.name 2) (.cons (.name 3) .nil))) (.tup (.cons (.blt .abs (.cons (.var 0) .nil)) (.cons (.blt .abs (.cons (.var 1) .nil)) .nil))))
    (.cons (.whil (.var 3) (.cons (.asg (.tup (.cons (.name 2) (.cons (.name 3) .nil))) (.tup (.cons (.var 3) (.cons (.op2 .Sub (.var 2) (.op2 .Mult (.op2 .FloorDiv (.var 2) (.var 3)) (.var 3))) .nil))))
    .nil))
    (.cons (.asg (.name 2) (.bltT .max (.lst (.cons (.var 2) (.cons (.lit (.int (1))) .nil)))))
    (.cons (.ret (.ite (.cmp .Gt (.var 1) (.lit (.int (0)))) (.tup (.cons (.op2 .FloorDiv (.var 0) (.var 2)) (.cons (.op2 .FloorDiv (.var 1) (.var 2)) .nil))) (.tup (.cons (.op2 .Sub (.lit (.int (0))) (.op2 .FloorDiv (.var 0) (.var 2))) (.cons (.op2 .Sub (.lit (.int (0))) (.op2 .FloorDiv (.var 1) (.var 2))) .nil)))))
    .nil))))
theorem abs_nat (u : Int) : (if u < 0 then -u else u) = ((u.natAbs : Nat) : Int) := by split <;> omega
theorem quot_ok {P : List Fn} {k j : Nat} {h : AH} {u d : Int} (hP : P[j]? = some ⟨2, 4, quotB⟩) (h0 : d ≠ 0) (hu : u.natAbs < 2 ^ 3000) (hd : d.natAbs < 2 ^ 3000) : evC P (k + 1) j [.int u, .int d] h = .ok (qd (red u d)) h := by
  rw [evC_at hP rfl]
  show (evSs (evC P k) quotB [some (.int u), some (.int d), none, none] h).bind (fin h) = _
  have up : ∀ {a : Nat}, a < 2 ^ 3000 → a < 2 ^ 8000 := fun h => Nat.lt_trans h (Nat.pow_lt_pow_right (by decide) (by decide))
  have g0 : 0 < Nat.gcd u.natAbs d.natAbs := Nat.gcd_pos_of_pos_right _ (by omega)
  have gl : Nat.gcd u.natAbs d.natAbs < 2 ^ 8000 := Nat.lt_of_le_of_lt (Nat.gcd_le_right _ (by omega)) (up hd)
  have lp := gcd_loop (call := evC P k) (h := h) (u := some (.int u)) (d := some (.int d)) FUEL u.natAbs d.natAbs (Nat.lt_trans hd (Nat.pow_lt_pow_right (by decide) (by decide))) (up hu) (up hd)
  generalize hg : Nat.gcd u.natAbs d.natAbs = g at *
  have hgd : ((g : Nat) : Int).natAbs < DBIG := lt_dbig (by simpa using gl)
  have hgd' : g < DBIG := by simpa using hgd
  unfold quotB
  rw [ss_nx (env1 := [some (.int u), some (.int d), some (.int u.natAbs), some (.int d.natAbs)]) (h1 := h) (by simp [evS, evE, evEs, evG, evGs, var, blt, Tgs.len, SZ, abs_nat])]
  rw [ss_nx (env1 := [some (.int u), some (.int d), some (.int g), some (.int 0)]) (h1 := h) (by
    rw [evS]
    exact lp)]
  rw [ss_nx (env1 := [some (.int u), some (.int d), some (.int g), some (.int 0)]) (h1 := h) (by
    have : ¬ (g : Int) < 1 := by omega
    simp [evS, evE, evEs, evT, evG, evGs, var, bltT, mapO, asInt, maxI, SZ, this])]
  have e1 : (Int.gcd u d : Nat) = g := hg
  by_cases hp : 0 < d
  · rw [ss_rt (d := qd (red u d)) (h1 := h) (by simp [evS, evB, evE, evEs, var, ofO, cmpP, truthy, prim2, hp, g0, hgd', SZ, red, qd, e1])]
    exact sweep_self
  · rw [ss_rt (d := qd (red u d)) (h1 := h) (by simp [evS, evB, evE, evEs, var, ofO, cmpP, truthy, prim2, hp, g0, hgd', SZ, red, qd, e1])]
    exact sweep_self
end RV
set_option Elab.async false
set_option linter.all false
set_option maxRecDepth 100000
set_option autoImplicit false
set_option maxHeartbeats 4000000
namespace RV
open PySem PySem.Spec PyProof.Rows L2
theorem gcd_ne {u d : Int} (h : d ≠ 0) : ((Int.gcd u d : Nat) : Int) ≠ 0 := by
  have : 0 < Int.gcd u d := Int.gcd_pos_of_ne_zero_right _ h
  omega
theorem red_cases (u d : Int) (h : d ≠ 0) : ∃ a b : Int, u = a * (Int.gcd u d : Nat) ∧ d = b * (Int.gcd u d : Nat) ∧ Int.gcd a b = 1 ∧ b ≠ 0 ∧ red u d = (if 0 < d then (a, b) else (-a, -b)) ∧ (0 < d ↔ 0 < b) := by
  have g0 := gcd_ne (u := u) h
  obtain ⟨a, ha⟩ := Int.gcd_dvd_left (a := u) (b := d)
  obtain ⟨b, hb⟩ := Int.gcd_dvd_right (a := u) (b := d)
  have gp : 0 < Int.gcd u d := by omega
  have e1 : u / (Int.gcd u d : Nat) = a := by
    conv => lhs; lhs; rw [ha]
    exact Int.mul_ediv_cancel_left _ g0
  have e2 : d / (Int.gcd u d : Nat) = b := by
    conv => lhs; lhs; rw [hb]
    exact Int.mul_ediv_cancel_left _ g0
  refine ⟨a, b, by rw [Int.mul_comm]; exact ha, by rw [Int.mul_comm]; exact hb, ?_, ?_, ?_, ?_⟩
  · rw [← e1, ← e2]
    exact Int.gcd_ediv_gcd_ediv_gcd gp
  · rintro rfl
    rw [Int.mul_zero] at hb
    exact h hb
  · unfold red
    rw [e1, e2]
  · generalize Int.gcd u d = g at *
    constructor
    · intro hd
      rw [hb] at hd
      by_cases hb0 : 0 < b
      · exact hb0
      · have := Int.mul_nonneg (show (0 : Int) ≤ (g : Int) by omega) (show 0 ≤ -b by omega)
        rw [Int.mul_neg] at this
        omega
    · intro hd
      rw [hb]
      exact Int.mul_pos (by omega) hd
theorem cop_neg {a b : Int} (h : Int.gcd a b = 1) : Int.gcd (-a) (-b) = 1 := by simpa using h
theorem red_pos {u d : Int} (h : d ≠ 0) : 0 < (red u d).2 := by
  obtain ⟨a, b, _, _, _, h3, h4, h5⟩ := red_cases u d h
  rw [h4]
  split <;> simp <;> omega
theorem red_cop {u d : Int} (h : d ≠ 0) : Int.gcd (red u d).1 (red u d).2 = 1 := by
  obtain ⟨a, b, _, _, h2, h3, h4, h5⟩ := red_cases u d h
  rw [h4]
  split
  · exact h2
  · exact cop_neg h2
theorem red_cross {u d : Int} (h : d ≠ 0) : (red u d).1 * d = u * (red u d).2 := by
  obtain ⟨a, b, h0, h1, h2, h3, h4, h5⟩ := red_cases u d h
  rw [h4]
  generalize Int.gcd u d = g at *
  split
  · show a * d = u * b
    rw [h0, h1, Int.mul_comm b, ← Int.mul_assoc]
  · show -a * d = u * -b
    rw [h0, h1, Int.neg_mul, Int.mul_neg, Int.mul_comm b, ← Int.mul_assoc]
theorem abs_le_mul {a : Int} {g : Nat} (hg : 0 < g) : a.natAbs ≤ (a * g).natAbs := by
  rw [Int.natAbs_mul]
  exact Nat.le_mul_of_pos_right _ (by simpa using hg)
theorem red_le {u d : Int} (h : d ≠ 0) : (red u d).1.natAbs ≤ u.natAbs ∧ (red u d).2.natAbs ≤ d.natAbs := by
  obtain ⟨a, b, h0, h1, h2, h3, h4, h5⟩ := red_cases u d h
  have gp : 0 < Int.gcd u d := by have := gcd_ne (u := u) h; omega
  rw [h4]
  have ea := abs_le_mul (a := a) gp
  have eb := abs_le_mul (a := b) gp
  rw [← h0] at ea
  rw [← h1] at eb
  split
  · exact ⟨ea, eb⟩
  · simpa using ⟨ea, eb⟩
/-- the lowest terms are one's own -/
theorem cop_dvd {a b c : Int} (h : Int.gcd a b = 1) (e : b ∣ a * c) : b ∣ c := by
  have h' : Nat.Coprime b.natAbs a.natAbs := by
    have : Nat.gcd a.natAbs b.natAbs = 1 := h
    rw [Nat.gcd_comm] at this
    exact this
  refine Int.natAbs_dvd_natAbs.mp (h'.dvd_of_dvd_mul_left ?_)
  rw [← Int.natAbs_mul]
  exact Int.natAbs_dvd_natAbs.mpr e
theorem low_uniq {a b c d : Int} (hb : 0 < b) (hd : 0 < d) (h1 : Int.gcd a b = 1) (h2 : Int.gcd c d = 1) (e : a * d = c * b) : a = c ∧ b = d := by
  have d1 : b ∣ d := cop_dvd h1 ⟨c, by rw [e, Int.mul_comm]⟩
  have d2 : d ∣ b := cop_dvd h2 ⟨a, by rw [← e, Int.mul_comm]⟩
  have hbd : b = d := Int.le_antisymm (Int.le_of_dvd hd d1) (Int.le_of_dvd hb d2)
  subst hbd
  exact ⟨Int.eq_of_mul_eq_mul_right (by omega) e, rfl⟩
theorem red_uniq {u d a b : Int} (h : d ≠ 0) (hb : 0 < b) (h1 : Int.gcd a b = 1) (e : a * d = u * b) : red u d = (a, b) := by
  have p := red_pos (u := u) h
  have c := red_cop (u := u) h
  have x := red_cross (u := u) h
  have : (red u d).1 * b = a * (red u d).2 := by
    refine Int.eq_of_mul_eq_mul_right h ?_
    rw [Int.mul_right_comm, x, Int.mul_right_comm, Int.mul_right_comm a, e]
  obtain ⟨q1, q2⟩ := low_uniq p hb c h1 this
  exact Prod.ext q1 q2
end RV
set_option Elab.async false
set_option linter.all false
set_option maxRecDepth 100000
set_option autoImplicit false
set_option maxHeartbeats 4000000
namespace RV
open PySem PySem.Spec PyProof.Rows L2
def sameB : CSs :=
    (.cons (.ret (.and (.cmp .Eq (.var 0) (.var 1)) (.cmp .Eq (.blt .repr (.cons (.var 0) .nil)) (.blt .repr (.cons (.var 1) .nil)))))
    .nil)
/-- d may be looked at by == and by repr -/
def Sm (h : AH) (d : D) : Prop := deq d d h = some true ∧ ∃ s, repO d h = some s
theorem same_ok {P : List Fn} {k j : Nat} {h : AH} {d : D} (hP : P[j]? = some ⟨2, 2, sameB⟩) (s : Sm h d) : evC P (k + 1) j [d, d] h = .ok (.bl true) h := by
  obtain ⟨s1, z, s2⟩ := s
  rw [evC_at hP rfl]
  show (evSs (evC P k) sameB [some d, some d] h).bind (fin h) = _
  unfold sameB
  rw [ss_rt (d := .bl true) (h1 := h) (by
    have e : blt .repr [d] h = .ok (.str z) h := by
      have : blt .repr [d] h = (match repO d h with
        | some s => .ok (.str s) h
        | none => .bad) := by cases d <;> rfl
      rw [this, s2]
    have e2 : deq (.str z) (.str z) h = some true := by simp [deq]
    simp [evS, evE, evEs, var, cmpP, s1, ofO, truthy, e, e2])]
  exact sweep_self
theorem int_len {i : Int} {k : Nat} (hk : 0 < k) (h : i.natAbs < 10 ^ k) : (Str.ofString (toString i)).length ≤ k + 1 := by
  cases i with
  | ofNat n =>
    have hn : n < 10 ^ k := by simpa using h
    have := toString_length_le (v := (n : Int)) (by omega) hk (by exact_mod_cast hn)
    exact Nat.le_succ_of_le this
  | negSucc n =>
    have hn : n + 1 < 10 ^ k := by simpa using h
    have := toString_length_le (v := ((n + 1 : Nat) : Int)) (by omega) hk (by exact_mod_cast hn)
    rw [ofString_len] at this ⊢
    have e : toString (Int.negSucc n) = "-" ++ toString ((n + 1 : Nat) : Int) := rfl
    rw [e, String.length_append]
    have : "-".length = 1 := rfl
    omega
theorem str_len2 (a b : Str) : (a ++ b).length = a.length + b.length := by
  show (a.cps ++ b.cps).size = a.cps.size + b.cps.size
  exact Array.size_append
theorem sm_qd {h : AH} {x : Int × Int} {k : Nat} (hk : 0 < k) (hk2 : k ≤ 500) (h1 : x.1.natAbs < 10 ^ k) (h2 : x.2.natAbs < 10 ^ k) : Sm h (qd x) := by
  have e : toP DEEP h (qd x) = some (.tuple [.int x.1, .int x.2]) := by simp [toP, DEEP, qd, mapO]
  have hb : ∀ i : Int, i.natAbs < 10 ^ k → i.natAbs.log2 < 1920 := fun i hi => by
    refine str_ok (Nat.lt_of_lt_of_le hi (Nat.le_trans (Nat.pow_le_pow_right (by decide) hk2) ?_))
    show 10 ^ 500 ≤ 2 ^ 1900
    decide +kernel
  refine ⟨?_, PyData.shown (.tuple [.int x.1, .int x.2]), ?_⟩
  · show (match toP DEEP h (qd x), toP DEEP h (qd x) with
      | some p, some q => some (PyData.eqv p q)
      | _, _ => none) = some true
    rw [e]
    simp [PyData.eqv, PyData.eqvAll]
  · unfold repO
    rw [e]
    have l1 := int_len hk h1
    have l2 := int_len hk h2
    have sh : PyData.showable (.tuple [.int x.1, .int x.2]) = true := by
      simp only [PyData.showable, PyData.showableAll, hb _ h1, hb _ h2, decide_true, Bool.and_self, Bool.and_true]
    have ln : (PyData.shown (.tuple [.int x.1, .int x.2])).length + 64 ≤ SZ := by
      have : PyData.shown (.tuple [.int x.1, .int x.2]) = (Str.ofString "(" ++ (Str.ofString (toString x.1) ++ Str.ofString ", " ++ Str.ofString (toString x.2))) ++ Str.ofString ")" := by
        simp [PyData.shown, PyData.shownAll, tupleText, Str.join]
      rw [this, str_len2, str_len2, str_len2, str_len2]
      have a1 : (Str.ofString "(").length = 1 := by decide +kernel
      have a2 : (Str.ofString ", ").length = 2 := by decide +kernel
      have a3 : (Str.ofString ")").length = 1 := by decide +kernel
      have : SZ = 16777216 := rfl
      omega
    show (if (PyData.showable _ && decide ((PyData.shown _).length + 64 ≤ SZ)) = true then _ else none) = _
    rw [sh, decide_eq_true ln]
    rfl
end RV
set_option Elab.async false
set_option linter.all false
set_option maxRecDepth 100000
set_option autoImplicit false
set_option maxHeartbeats 4000000
namespace RV
open PySem PySem.Spec PyProof.Rows L2
theorem at2 {a0 a1 : D} : L2.atI [a0, a1] 0 = some a0 ∧ L2.atI [a0, a1] 1 = some a1 := ⟨rfl, rfl⟩
theorem deq_qd {h : AH} {x y : Int × Int} : deq (qd x) (qd y) h = some (decide (x = y)) := by
  have e : ∀ x : Int × Int, toP DEEP h (qd x) = some (.tuple [.int x.1, .int x.2]) := fun x => by simp [toP, DEEP, qd, mapO]
  show (match toP DEEP h (qd x), toP DEEP h (qd y) with
    | some p, some q => some (PyData.eqv p q)
    | _, _ => none) = _
  rw [e, e]
  obtain ⟨a, b⟩ := x
  obtain ⟨c, d⟩ := y
  simp [PyData.eqv, PyData.eqvAll, Prod.ext_iff]
  rw [Bool.eq_iff_iff]
  simp
theorem sub0 {h : AH} {x : Int × Int} : subP (qd x) (.int 0) h = .ok (.int x.1) h := by simp [subP, seqOf, qd, at2]
theorem sub1 {h : AH} {x : Int × Int} : subP (qd x) (.int 1) h = .ok (.int x.2) h := by simp [subP, seqOf, qd, at2]
/-- below 2 ^ n -/
def Lt2 (n : Nat) (i : Int) : Prop := i.natAbs < 2 ^ n
theorem Lt2.le {n m : Nat} {i : Int} (h : Lt2 n i) (e : n ≤ m) : Lt2 m i := Nat.lt_of_lt_of_le h (Nat.pow_le_pow_right (by decide) e)
theorem Lt2.mul {n m : Nat} {i j : Int} (h : Lt2 n i) (h' : Lt2 m j) : Lt2 (n + m) (i * j) := by
  unfold Lt2 at *
  rw [Int.natAbs_mul, Nat.pow_add]
  exact Nat.mul_lt_mul'' h h'
theorem Lt2.add {n : Nat} {i j : Int} (h : Lt2 n i) (h' : Lt2 n j) : Lt2 (n + 1) (i + j) := by
  unfold Lt2 at *
  rw [Nat.pow_succ]
  omega
theorem Lt2.neg {n : Nat} {i : Int} (h : Lt2 n i) : Lt2 n (-i) := by
  unfold Lt2 at *
  omega
theorem Lt2.big {n : Nat} {i : Int} (h : Lt2 n i) (e : n ≤ 8000) : i.natAbs < BIG := lt_big (h.le e)
theorem Lt2.dbig {n : Nat} {i : Int} (h : Lt2 n i) (e : n ≤ 8000) : i.natAbs < DBIG := lt_dbig (h.le e)
/-- in lowest terms, each part below 2 ^ n -/
structure Qt (n : Nat) (x : Int × Int) : Prop where
  pos : 0 < x.2
  cop : Int.gcd x.1 x.2 = 1
  l1 : Lt2 n x.1
  l2 : Lt2 n x.2
theorem Qt.le {n m : Nat} {x : Int × Int} (h : Qt n x) (e : n ≤ m) : Qt m x := ⟨h.pos, h.cop, h.l1.le e, h.l2.le e⟩
theorem Qt.ne {n : Nat} {x : Int × Int} (h : Qt n x) : x.2 ≠ 0 := by have := h.pos; omega
theorem qt_red {n : Nat} {u d : Int} (h : d ≠ 0) (h1 : Lt2 n u) (h2 : Lt2 n d) : Qt n (red u d) := ⟨red_pos h, red_cop h, Nat.lt_of_le_of_lt (red_le h).1 h1, Nat.lt_of_le_of_lt (red_le h).2 h2⟩
theorem Qt.sm {n : Nat} {x : Int × Int} {h : AH} (q : Qt n x) (e : n ≤ 1600) : Sm h (qd x) := by
  have : (2 : Nat) ^ n ≤ 10 ^ 500 := Nat.le_trans (Nat.pow_le_pow_right (by decide) e) (by decide +kernel)
  exact sm_qd (k := 500) (by decide) (by decide) (Nat.lt_of_lt_of_le q.l1 this) (Nat.lt_of_lt_of_le q.l2 this)
theorem qd_eta (a b : Int) : (.tup [.int a, .int b] : D) = qd (a, b) := rfl
/-- a def that leaves the heap alone -/
theorem ent {P : List Fn} {k j np nn : Nat} {body : CSs} {ds : List D} {h : AH} {d : D} (env : En) (hP : P[j]? = some ⟨np, nn, body⟩) (hl : ds.length = np) (he : ds.map some ++ List.replicate (nn - np) none = env) (q : evSs (evC P k) body env h = .ok (.rt d) h) : evC P (k + 1) j ds h = .ok d h := by
  rw [evC_at hP hl]
  show (evSs (evC P k) body (ds.map some ++ List.replicate (nn - np) none) h).bind (fin h) = _
  rw [he, q]
  exact sweep_self
theorem entN {P : List Fn} {k j np nn : Nat} {body : CSs} {ds : List D} {h : AH} {env' : En} (env : En) (hP : P[j]? = some ⟨np, nn, body⟩) (hl : ds.length = np) (he : ds.map some ++ List.replicate (nn - np) none = env) (q : evSs (evC P k) body env h = .ok (.nx env') h) : evC P (k + 1) j ds h = .ok .non h := by
  rw [evC_at hP hl]
  show (evSs (evC P k) body (ds.map some ++ List.replicate (nn - np) none) h).bind (fin h) = _
  rw [he, q]
  exact sweep_self
theorem entH {P : List Fn} {k j np nn : Nat} {body : CSs} {ds : List D} {h h' : AH} {d : D} (env : En) (hP : P[j]? = some ⟨np, nn, body⟩) (hl : ds.length = np) (he : ds.map some ++ List.replicate (nn - np) none = env) (q : evSs (evC P k) body env h = .ok (.rt d) h') (e : h'.length = h.length) : evC P (k + 1) j ds h = .ok d h' := by
  rw [evC_at hP hl]
  show (evSs (evC P k) body (ds.map some ++ List.replicate (nn - np) none) h).bind (fin h) = _
  rw [he, q]
  exact sweep_len e
theorem tru_bl {b : Bool} {h : AH} : truthy (.bl b) h = some b := rfl
theorem isTy_qd {x : Int × Int} {h : AH} : isTy (qd x) .tup h = some true := rfl
theorem len_qd {x : Int × Int} {h : AH} : blt .len [qd x] h = .ok (.int 2) h := by simp [blt, qd, seqOf]
theorem deq_i {i j : Int} {h : AH} : deq (.int i) (.int j) h = some (decide (i = j)) := rfl
theorem blt_gcd {i j : Int} {h : AH} : blt .gcd [.int i, .int j] h = .ok (.int ((Nat.gcd i.natAbs j.natAbs : Nat) : Int)) h := rfl
theorem blt_abs {i : Int} {h : AH} : blt .abs [.int i] h = .ok (.int (if i < 0 then -i else i)) h := rfl
theorem blt_int {i : Int} {h : AH} : blt .int [.int i] h = .ok (.int i) h := rfl
theorem sz0 : (0 ≤ SZ) = True := eq_true (by decide)
theorem sz1 : (0 + 1 ≤ SZ) = True := eq_true (by decide)
theorem sz2 : (0 + 1 + 1 ≤ SZ) = True := eq_true (by decide)
theorem sz3 : (0 + 1 + 1 + 1 ≤ SZ) = True := eq_true (by decide)
end RV
namespace RV.K00
open PySem PySem.Spec PyProof.Rows L2
variable {k : Nat} {h : AH}
theorem v_integer (i : Int) : evC prg (k + 1) 0 [.int i] h = .ok (.bl true) h := by
  refine ent [some (.int i)] (show prg[0]? = some f_is_integer from rfl) rfl rfl ?_
  simp [evSs, evS, evE, evEs, var, isTy, ofO, truthy]
theorem beyond : c_BEYOND = .int (10 ^ 200) := by
  unfold c_BEYOND
  congr 1
theorem ten200 {i : Int} (hi : Lt2 600 i) : -(10 ^ 200 : Int) < i ∧ i < (10 ^ 200 : Int) := by
  have hb : (2 : Nat) ^ 600 < 10 ^ 200 := by decide +kernel
  have hi' : i.natAbs < 10 ^ 200 := Nat.lt_trans hi hb
  have e : ((10 ^ 200 : Nat) : Int) = (10 : Int) ^ 200 := by norm_cast
  omega
theorem v_told {i : Int} (hi : Lt2 600 i) : evC prg (k + 2) 1 [.int i] h = .ok (.bl true) h := by
  obtain ⟨h1, h2⟩ := ten200 hi
  refine ent (k := k + 1) [some (.int i)] (show prg[1]? = some f_is_told from rfl) rfl rfl ?_
  simp only [evSs, evS, evE, evEs, var, R.bind_ok, List.getElem?_cons_zero, v_integer, tru_bl, ofO, if_true, beyond, cmpP, h1, h2, decide_true]
theorem v_great {x : Int × Int} (q : Qt 600 x) : evC prg (k + 1) 4 [qd x] h = .ok (.bl false) h := by
  obtain ⟨h1, h2⟩ := ten200 q.l1
  obtain ⟨h3, h4⟩ := ten200 q.l2
  refine ent [some (qd x)] (show prg[4]? = some f_is_great from rfl) rfl rfl ?_
  simp only [evSs, evS, evE, evEs, var, R.bind_ok, List.getElem?_cons_zero, sub0, sub1, tru_bl, ofO, if_true, beyond, cmpP, h1, h2, h4, decide_true, Bool.not_true, Bool.false_eq_true, if_false]
theorem v_made {u d : Int} (h0 : d ≠ 0) (hu : Lt2 3000 u) (hd : Lt2 3000 d) : evC prg (k + 1) 3 [.int u, .int d] h = .ok (qd (red u d)) h := by
  have g0 : (0 : Int) < (Int.gcd u d : Nat) := by have := gcd_ne (u := u) h0; omega
  have gb : ((Int.gcd u d : Nat) : Int).natAbs < DBIG := by
    have h1 : Int.gcd u d ≤ d.natAbs := Nat.gcd_le_right _ (by omega)
    exact lt_dbig (Nat.lt_of_le_of_lt (by simpa using h1) (Nat.lt_trans hd (Nat.pow_lt_pow_right (by decide) (by decide))))
  refine ent [some (.int u), some (.int d), none] (show prg[3]? = some f_made from rfl) rfl rfl ?_
  by_cases hd0 : d < 0
  · have hd1 : ¬ 0 < d := by omega
    have e1 : (-u) / ((Int.gcd u d : Nat) : Int) = -(u / (Int.gcd u d : Nat)) := Int.neg_ediv_of_dvd (Int.gcd_dvd_left ..)
    have e2 : (-d) / ((Int.gcd u d : Nat) : Int) = -(d / (Int.gcd u d : Nat)) := Int.neg_ediv_of_dvd (Int.gcd_dvd_right ..)
    have e3 : Nat.gcd (-u).natAbs (-d).natAbs = Int.gcd u d := by simp [Int.gcd]
    have e0 : (if (decide (d < 0)) = true then true else false) = true := by simp [hd0]
    simp only [evSs, evS, evE, evEs, evB, evG, evGs, var, R.bind_ok, List.getElem?_cons_zero, List.getElem?_cons_succ, tru_bl, ofO, cmpP, hd0, decide_true, if_true, sz2, Tgs.len, List.length_cons, List.length_nil, List.set_cons_zero, List.set_cons_succ, blt_gcd, e3, prim2, if_pos (And.intro g0 gb), e1, e2, red, if_neg hd1, qd, sz2]
  · have hd1 : 0 < d := by omega
    have e3 : Nat.gcd u.natAbs d.natAbs = Int.gcd u d := rfl
    simp only [evSs, evS, evE, evEs, evB, evG, evGs, var, R.bind_ok, List.getElem?_cons_zero, List.getElem?_cons_succ, tru_bl, ofO, cmpP, hd0, decide_false, Bool.false_eq_true, if_false, Tgs.len, List.length_cons, List.length_nil, List.set_cons_zero, List.set_cons_succ, blt_gcd, e3, prim2, if_pos (And.intro g0 gb), red, if_pos hd1, qd, sz2, if_true]
theorem v_any {x : Int × Int} {n : Nat} (q : Qt n x) : evC prg (k + 2) 5 [qd x] h = .ok (.bl true) h := by
  have h1 : decide ((1 : Int) ≤ x.2) = true := by have := q.pos; exact decide_eq_true (by omega)
  have h2 : ((Nat.gcd x.1.natAbs x.2.natAbs : Nat) : Int) = 1 := by have := q.cop; exact_mod_cast this
  refine ent (k := k + 1) [some (qd x), none] (show prg[5]? = some f_is_any from rfl) rfl rfl ?_
  have ht : evT (evC prg (k + 1)) (.lc [1] (.name 1) (.val (.var 0)) .none (.call 0 (.cons (.var 1) .nil))) [some (qd x), none] h = .ok [.bl true, .bl true] h := by
    simp [evT, evI, evE, evEs, var, walkP, qd, evComp, depsOk, evG, evF, wipeE, v_integer, SZ]
  simp only [evSs, evS, evE, evEs, evB, var, R.bind_ok, List.getElem?_cons_zero, List.getElem?_cons_succ, tru_bl, ofO, cmpP, deq_i, isTy_qd, len_qd, decide_true, decide_false, Bool.not_true, Bool.false_eq_true, if_false, ht, bltT, mapO, asBl, List.all_cons, List.all_nil, sub1, sub0, h1, if_true, blt_gcd, h2, id, Bool.and_self]
theorem v_quotient {x : Int × Int} (q : Qt 600 x) : evC prg (k + 3) 6 [qd x] h = .ok (.bl true) h := by
  refine ent (k := k + 2) [some (qd x)] (show prg[6]? = some f_is_quotient from rfl) rfl rfl ?_
  simp only [evSs, evS, evE, evEs, evB, var, R.bind_ok, List.getElem?_cons_zero, v_any q, v_great (k := k + 1) q, tru_bl, ofO, if_true, Bool.not_false]
theorem v_check {x : Int × Int} {s : Str} (q : Qt 600 x) : evC prg (k + 4) 7 [qd x, .str s] h = .ok .non h := by
  refine entN (k := k + 3) [some (qd x), some (.str s)] (show prg[7]? = some f_check_quotient from rfl) rfl rfl (env' := [some (qd x), some (.str s)]) ?_
  simp only [evSs, evS, evE, evEs, evB, var, R.bind_ok, List.getElem?_cons_zero, v_quotient q, tru_bl, ofO, Bool.not_true, Bool.false_eq_true, if_false]
theorem v_two {x y : Int × Int} (q : Qt 600 x) (r : Qt 600 y) : evC prg (k + 5) 8 [qd x, qd y] h = .ok .non h := by
  refine entN (k := k + 4) [some (qd x), some (qd y)] (show prg[8]? = some f_check_two from rfl) rfl rfl (env' := [some (qd x), some (qd y)]) ?_
  simp only [evSs, evS, evE, evEs, evB, var, R.bind_ok, List.getElem?_cons_zero, List.getElem?_cons_succ, v_check q, v_check r]
end RV.K00
set_option Elab.async false
set_option linter.all false
set_option maxRecDepth 100000
set_option autoImplicit false
set_option maxHeartbeats 4000000
namespace RV
open PySem PySem.Spec PyProof.Rows L2
theorem one_gcd (a : Int) : Int.gcd a 1 = 1 := by simp [Int.gcd]
theorem red_one {a : Int} : red a 1 = (a, 1) := red_uniq (by decide) (by decide) (one_gcd a) rfl
theorem lt2_1 {n : Nat} (hn : 0 < n) : Lt2 n 1 := by
  have : 2 ^ 1 ≤ 2 ^ n := Nat.pow_le_pow_right (by decide) hn
  unfold Lt2
  simp at *
  omega
theorem big2 {n m : Nat} {i j : Int} (h1 : Lt2 n i) (h2 : Lt2 m j) (e1 : n ≤ 8000) (e2 : m ≤ 8000) : i.natAbs < BIG ∧ j.natAbs < BIG := ⟨h1.big e1, h2.big e2⟩
/-- the sum, the product as a quotient -/
def sumQ (x y : Int × Int) : Int × Int := red (x.1 * y.2 + y.1 * x.2) (x.2 * y.2)
def mulQ (x y : Int × Int) : Int × Int := red (x.1 * y.1) (x.2 * y.2)
def ovQ (x y : Int × Int) : Int × Int := red (x.1 * y.2) (x.2 * y.1)
def negQ (x : Int × Int) : Int × Int := (-x.1, x.2)
section
variable {n m : Nat} {x y : Int × Int} (q : Qt n x) (r : Qt m y)
include q r
theorem den_ne : x.2 * y.2 ≠ 0 := Int.mul_ne_zero q.ne r.ne
theorem sum_l1 {p : Nat} (h1 : n + m + 1 ≤ p) : Lt2 p (x.1 * y.2 + y.1 * x.2) := ((q.l1.mul r.l2).add (by have := r.l1.mul q.l2; rw [Nat.add_comm] at this; exact this)).le h1
theorem sum_l2 {p : Nat} (h1 : n + m + 1 ≤ p) : Lt2 p (x.2 * y.2) := (q.l2.mul r.l2).le (by omega)
theorem qt_sum : Qt (n + m + 1) (sumQ x y) := qt_red (den_ne q r) (sum_l1 q r (Nat.le_refl _)) (sum_l2 q r (Nat.le_refl _))
theorem qt_mul : Qt (n + m) (mulQ x y) := qt_red (den_ne q r) (q.l1.mul r.l1) (q.l2.mul r.l2)
theorem ov_ne (h : y.1 ≠ 0) : x.2 * y.1 ≠ 0 := Int.mul_ne_zero q.ne h
theorem qt_ov (h : y.1 ≠ 0) : Qt (n + m) (ovQ x y) := qt_red (ov_ne q r h) (q.l1.mul r.l2) (q.l2.mul r.l1)
end
theorem qt_neg {n : Nat} {x : Int × Int} (q : Qt n x) : Qt n (negQ x) := ⟨q.pos, by
  have := q.cop
  simpa [negQ] using this, q.l1.neg, q.l2⟩
theorem cop0 {n : Nat} {x : Int × Int} (q : Qt n x) (h : x.1 = 0) : x = (0, 1) := by
  have c := q.cop
  have p := q.pos
  rw [h] at c
  have : x.2.natAbs = 1 := by simpa [Int.gcd] using c
  exact Prod.ext h (by show x.2 = 1; omega)
theorem num_ne {n : Nat} {x : Int × Int} (q : Qt n x) (h : x ≠ (0, 1)) : x.1 ≠ 0 := fun z => h (cop0 q z)
theorem mulP {i j : Int} {h : AH} (c : i.natAbs < BIG ∧ j.natAbs < BIG) : prim2 .Mult (.int i) (.int j) h = .ok (.int (i * j)) h := by
  simp only [prim2, if_pos c]
theorem addP {i j : Int} {h : AH} : prim2 .Add (.int i) (.int j) h = .ok (.int (i + j)) h := rfl
theorem subP' {i j : Int} {h : AH} : prim2 .Sub (.int i) (.int j) h = .ok (.int (i - j)) h := rfl
end RV
namespace RV.K00
open PySem PySem.Spec PyProof.Rows L2
variable {k : Nat} {h : AH} {n m : Nat} {x y : Int × Int}
theorem v_added (q : Qt n x) (r : Qt m y) (hn : n + m + 1 ≤ 3000) : evC prg (k + 2) 10 [qd x, qd y] h = .ok (qd (sumQ x y)) h := by
  refine ent (k := k + 1) [some (qd x), some (qd y)] (show prg[10]? = some f_added from rfl) rfl rfl ?_
  have m1 := mulP (h := h) (big2 q.l1 r.l2 (by omega) (by omega))
  have m2 := mulP (h := h) (big2 r.l1 q.l2 (by omega) (by omega))
  have m3 := mulP (h := h) (big2 q.l2 r.l2 (by omega) (by omega))
  have md := v_made (k := k) (h := h) (den_ne q r) (sum_l1 q r hn) (sum_l2 q r hn)
  by_cases e1 : x.2 = y.2
  · by_cases e2 : y.2 = 1
    · have e3 : x.2 = 1 := e1.trans e2
      have : sumQ x y = (x.1 + y.1, 1) := by
        unfold sumQ
        rw [e2, e3, Int.mul_one, Int.mul_one, Int.mul_one, red_one]
      rw [this]
      show _ = R.ok (Fl.rt (.tup [.int (x.1 + y.1), .int 1])) h
      simp only [evSs, evS, evE, evEs, evB, var, R.bind_ok, List.getElem?_cons_zero, List.getElem?_cons_succ, sub0, sub1, tru_bl, ofO, cmpP, deq_i, e3, e2, decide_true, if_true, addP, List.length_cons, List.length_nil, sz2]
    · simp only [evSs, evS, evE, evEs, evB, var, R.bind_ok, List.getElem?_cons_zero, List.getElem?_cons_succ, sub0, sub1, tru_bl, ofO, cmpP, deq_i, e1, e2, decide_true, decide_false, Bool.false_eq_true, if_false, if_true]
      rw [e1] at m2 m3 md
      simp only [m1, m2, m3, R.bind_ok, addP, md, sumQ, e1]
  · simp only [evSs, evS, evE, evEs, evB, var, R.bind_ok, List.getElem?_cons_zero, List.getElem?_cons_succ, sub0, sub1, tru_bl, ofO, cmpP, deq_i, e1, decide_true, decide_false, Bool.false_eq_true, if_false, m1, m2, m3, addP, md, sumQ]
theorem v_turned (x : Int × Int) : evC prg (k + 1) 11 [qd x] h = .ok (qd (negQ x)) h := by
  refine ent [some (qd x)] (show prg[11]? = some f_turned from rfl) rfl rfl ?_
  show _ = R.ok (Fl.rt (.tup [.int (-x.1), .int x.2])) h
  simp only [evSs, evS, evE, evEs, evB, var, R.bind_ok, List.getElem?_cons_zero, List.getElem?_cons_succ, sub0, sub1, List.length_cons, List.length_nil, sz2, if_true]
theorem v_taken (q : Qt n x) (r : Qt m y) (hn : n + m + 1 ≤ 3000) : evC prg (k + 3) 12 [qd x, qd y] h = .ok (qd (sumQ x (negQ y))) h := by
  refine ent (k := k + 2) [some (qd x), some (qd y)] (show prg[12]? = some f_taken from rfl) rfl rfl ?_
  simp only [evSs, evS, evE, evEs, evB, var, R.bind_ok, List.getElem?_cons_zero, List.getElem?_cons_succ, v_turned (k := k + 1), v_added q (qt_neg r) hn]
theorem v_product (q : Qt n x) (r : Qt m y) (hn : n + m ≤ 3000) : evC prg (k + 2) 13 [qd x, qd y] h = .ok (qd (mulQ x y)) h := by
  refine ent (k := k + 1) [some (qd x), some (qd y)] (show prg[13]? = some f_product from rfl) rfl rfl ?_
  have m1 := mulP (h := h) (big2 q.l1 r.l1 (by omega) (by omega))
  have m3 := mulP (h := h) (big2 q.l2 r.l2 (by omega) (by omega))
  have md := v_made (k := k) (h := h) (den_ne q r) ((q.l1.mul r.l1).le hn) ((q.l2.mul r.l2).le hn)
  by_cases e1 : x.2 = y.2
  · by_cases e2 : y.2 = 1
    · have e3 : x.2 = 1 := e1.trans e2
      have : mulQ x y = (x.1 * y.1, 1) := by
        unfold mulQ
        rw [e2, e3, Int.mul_one, red_one]
      rw [this]
      show _ = R.ok (Fl.rt (.tup [.int (x.1 * y.1), .int 1])) h
      simp only [evSs, evS, evE, evEs, evB, var, R.bind_ok, List.getElem?_cons_zero, List.getElem?_cons_succ, sub0, sub1, tru_bl, ofO, cmpP, deq_i, e3, e2, decide_true, if_true, m1, List.length_cons, List.length_nil, sz2]
    · simp only [evSs, evS, evE, evEs, evB, var, R.bind_ok, List.getElem?_cons_zero, List.getElem?_cons_succ, sub0, sub1, tru_bl, ofO, cmpP, deq_i, e1, e2, decide_true, decide_false, Bool.false_eq_true, if_false, if_true]
      rw [e1] at m3 md
      simp only [m1, m3, R.bind_ok, md, mulQ, e1]
  · simp only [evSs, evS, evE, evEs, evB, var, R.bind_ok, List.getElem?_cons_zero, List.getElem?_cons_succ, sub0, sub1, tru_bl, ofO, cmpP, deq_i, e1, decide_true, decide_false, Bool.false_eq_true, if_false, m1, m3, md, mulQ]
theorem v_divided (q : Qt n x) (r : Qt m y) (h0 : y.1 ≠ 0) (hn : n + m ≤ 3000) : evC prg (k + 2) 14 [qd x, qd y] h = .ok (qd (ovQ x y)) h := by
  refine ent (k := k + 1) [some (qd x), some (qd y)] (show prg[14]? = some f_divided from rfl) rfl rfl ?_
  have m1 := mulP (h := h) (big2 q.l1 r.l2 (by omega) (by omega))
  have m3 := mulP (h := h) (big2 q.l2 r.l1 (by omega) (by omega))
  have md := v_made (k := k) (h := h) (ov_ne q r h0) ((q.l1.mul r.l2).le hn) ((q.l2.mul r.l1).le hn)
  simp only [evSs, evS, evE, evEs, evB, var, R.bind_ok, List.getElem?_cons_zero, List.getElem?_cons_succ, sub0, sub1, m1, m3, md, ovQ]
theorem v_below (q : Qt n x) (r : Qt m y) (hn : n + m ≤ 3000) : evC prg (k + 1) 16 [qd x, qd y] h = .ok (.bl (decide (x.1 * y.2 < y.1 * x.2))) h := by
  refine ent [some (qd x), some (qd y)] (show prg[16]? = some f_below from rfl) rfl rfl ?_
  have m1 := mulP (h := h) (big2 q.l1 r.l2 (by omega) (by omega))
  have m3 := mulP (h := h) (big2 r.l1 q.l2 (by omega) (by omega))
  simp only [evSs, evS, evE, evEs, evB, var, R.bind_ok, List.getElem?_cons_zero, List.getElem?_cons_succ, sub0, sub1, m1, m3, cmpP, ofO]
theorem v_less' (q : Qt n x) (r : Qt m y) (hn : n + m ≤ 3000) : evC prg (k + 1) 34 [qd x, qd y] h = .ok (.bl (decide (x.1 * y.2 < y.1 * x.2))) h := by
  refine ent [some (qd x), some (qd y)] (show prg[34]? = some f__law_less from rfl) rfl rfl ?_
  have m1 := mulP (h := h) (big2 q.l1 r.l2 (by omega) (by omega))
  have m3 := mulP (h := h) (big2 r.l1 q.l2 (by omega) (by omega))
  simp only [evSs, evS, evE, evEs, evB, var, R.bind_ok, List.getElem?_cons_zero, List.getElem?_cons_succ, sub0, sub1, m1, m3, cmpP, ofO]
theorem v_quot {u d : Int} (h0 : d ≠ 0) (hu : Lt2 3000 u) (hd : Lt2 3000 d) : evC prg (k + 1) 28 [.int u, .int d] h = .ok (qd (red u d)) h := quot_ok rfl h0 hu hd
theorem v_lsum (q : Qt n x) (r : Qt m y) (hn : n + m + 1 ≤ 3000) : evC prg (k + 2) 30 [qd x, qd y] h = .ok (qd (sumQ x y)) h := by
  refine ent (k := k + 1) [some (qd x), some (qd y)] (show prg[30]? = some f__law_sum from rfl) rfl rfl ?_
  have m1 := mulP (h := h) (big2 q.l1 r.l2 (by omega) (by omega))
  have m2 := mulP (h := h) (big2 r.l1 q.l2 (by omega) (by omega))
  have m3 := mulP (h := h) (big2 q.l2 r.l2 (by omega) (by omega))
  have md := v_quot (k := k) (h := h) (den_ne q r) (sum_l1 q r hn) (sum_l2 q r hn)
  simp only [evSs, evS, evE, evEs, evB, var, R.bind_ok, List.getElem?_cons_zero, List.getElem?_cons_succ, sub0, sub1, m1, m2, m3, addP, md, sumQ]
theorem v_lturned (x : Int × Int) : evC prg (k + 1) 31 [qd x] h = .ok (qd (negQ x)) h := by
  refine ent [some (qd x)] (show prg[31]? = some f__law_turned from rfl) rfl rfl ?_
  show _ = R.ok (Fl.rt (.tup [.int (-x.1), .int x.2])) h
  simp only [evSs, evS, evE, evEs, evB, var, R.bind_ok, List.getElem?_cons_zero, List.getElem?_cons_succ, sub0, sub1, List.length_cons, List.length_nil, sz2, if_true, subP', Int.zero_sub]
theorem v_lproduct (q : Qt n x) (r : Qt m y) (hn : n + m ≤ 3000) : evC prg (k + 2) 32 [qd x, qd y] h = .ok (qd (mulQ x y)) h := by
  refine ent (k := k + 1) [some (qd x), some (qd y)] (show prg[32]? = some f__law_product from rfl) rfl rfl ?_
  have m1 := mulP (h := h) (big2 q.l1 r.l1 (by omega) (by omega))
  have m3 := mulP (h := h) (big2 q.l2 r.l2 (by omega) (by omega))
  have md := v_quot (k := k) (h := h) (den_ne q r) ((q.l1.mul r.l1).le hn) ((q.l2.mul r.l2).le hn)
  simp only [evSs, evS, evE, evEs, evB, var, R.bind_ok, List.getElem?_cons_zero, List.getElem?_cons_succ, sub0, sub1, m1, m3, md, mulQ]
theorem v_lover (q : Qt n x) (r : Qt m y) (h0 : y.1 ≠ 0) (hn : n + m ≤ 3000) : evC prg (k + 2) 33 [qd x, qd y] h = .ok (qd (ovQ x y)) h := by
  refine ent (k := k + 1) [some (qd x), some (qd y)] (show prg[33]? = some f__law_over from rfl) rfl rfl ?_
  have m1 := mulP (h := h) (big2 q.l1 r.l2 (by omega) (by omega))
  have m3 := mulP (h := h) (big2 q.l2 r.l1 (by omega) (by omega))
  have md := v_quot (k := k) (h := h) (ov_ne q r h0) ((q.l1.mul r.l2).le hn) ((q.l2.mul r.l1).le hn)
  simp only [evSs, evS, evE, evEs, evB, var, R.bind_ok, List.getElem?_cons_zero, List.getElem?_cons_succ, sub0, sub1, m1, m3, md, ovQ]
end RV.K00
set_option Elab.async false
set_option linter.all false
set_option maxRecDepth 100000
set_option autoImplicit false
set_option maxHeartbeats 4000000
namespace RV
open PySem PySem.Spec PyProof.Rows L2
theorem loop_ok {tg : D → En → AH → R En} {body : En → AH → R Fl} {deps : List (Nat × Cell)} (I : List D → En → AH → Prop) (hd : ∀ r env h, I r env h → depsOk deps h = true)
    (step : ∀ x r env h, I (x :: r) env h → ∃ env1 h1 env2 h2, tg x env h = .ok env1 h1 ∧ body env1 h1 = .ok (.nx env2) h2 ∧ I r env2 h2) : ∀ xs env h, I xs env h → ∃ env' h', evLoop tg body deps xs env h = .ok (.nx env') h' ∧ I [] env' h'
  | [], env, h, i => ⟨env, h, by rw [evLoop, hd _ _ _ i]; rfl, i⟩
  | x :: r, env, h, i => by
    obtain ⟨env1, h1, env2, h2, e1, e2, i2⟩ := step x r env h i
    obtain ⟨env', h', e3, i3⟩ := loop_ok I hd step r env2 h2 i2
    refine ⟨env', h', ?_, i3⟩
    rw [evLoop, hd _ _ _ i, if_pos rfl, e1, R.bind_ok, e2, R.bind_ok]
    exact e3
theorem for_nx {call : Call} {t : Tg} {it : CI} {b : CSs} {env env' : En} {h h1 h2 : AH} {src : List D} {deps : List (Nat × Cell)} (e : evI call it env h = .ok (src, deps) h1) (q : evLoop (evG call t) (evSs call b) deps src env h1 = .ok (.nx env') h2) : evS call (.forr t it b) env h = .ok (.nx env') h2 := by
  rw [evS, e]
  exact q
theorem rng_len (lo : Int) (n : Nat) : (rngL lo n).length = n := by simp [rngL]
theorem rng1_nat {N : Nat} {h : AH} (hN : N ≤ 1000000) : rng1P (.int (N : Int)) h = .ok (rngL 0 N, []) h := by
  simp only [rng1P]
  rw [if_pos ⟨by unfold RB; omega, by unfold RB; omega⟩]
  rfl
theorem rng1_int {i : Int} {h : AH} (h0 : 0 ≤ i) (h1 : i ≤ 1000000) : rng1P (.int i) h = .ok (rngL 0 i.toNat, []) h := by
  simp only [rng1P]
  rw [if_pos ⟨by unfold RB; omega, by unfold RB; omega⟩]
theorem q0 : Qt 1 (0, 1) := ⟨by decide, by decide, by unfold Lt2; decide, by unfold Lt2; decide⟩
theorem q1 : Qt 1 (1, 1) := ⟨by decide, by decide, by unfold Lt2; decide, by unfold Lt2; decide⟩
def powQ (n : Nat) (x : Int × Int) : Int × Int := (x.1 ^ n, x.2 ^ n)
theorem lt2_pow {a : Nat} {v : Int} (h : Lt2 a v) (n : Nat) : Lt2 (a * n + 1) (v ^ n) := by
  unfold Lt2 at *
  rw [Int.natAbs_pow, Nat.pow_succ, Nat.pow_mul]
  have : v.natAbs ^ n ≤ (2 ^ a) ^ n := Nat.pow_le_pow_left (Nat.le_of_lt h) n
  have p : 0 < (2 ^ a) ^ n := Nat.pow_pos (Nat.pow_pos (by decide))
  omega
theorem cop_pow {a b : Int} (h : Int.gcd a b = 1) (n : Nat) : Int.gcd (a ^ n) (b ^ n) = 1 := by
  have h' : Nat.Coprime a.natAbs b.natAbs := h
  show Nat.gcd (a ^ n).natAbs (b ^ n).natAbs = 1
  rw [Int.natAbs_pow, Int.natAbs_pow]
  exact h'.pow n n
theorem qt_pow {a : Nat} {x : Int × Int} (q : Qt a x) (n : Nat) : Qt (a * n + 1) (powQ n x) := ⟨Int.pow_pos q.pos, cop_pow q.cop n, lt2_pow q.l1 n, lt2_pow q.l2 n⟩
theorem mulQ_pow {a : Nat} {x : Int × Int} (q : Qt a x) (n : Nat) : mulQ (powQ n x) x = powQ (n + 1) x := by
  have p := qt_pow q (n + 1)
  unfold mulQ
  refine red_uniq (Int.mul_ne_zero (qt_pow q n).ne q.ne) p.pos p.cop ?_
  show x.1 ^ (n + 1) * (x.2 ^ n * x.2) = x.1 ^ n * x.1 * x.2 ^ (n + 1)
  rw [Int.pow_succ, Int.pow_succ]
theorem powQ_ov {a : Nat} {x : Int × Int} (q : Qt a x) (h : x.1 ≠ 0) (n : Nat) : ovQ (1, 1) (powQ n x) = powQ n (ovQ (1, 1) x) := by
  have r := qt_ov q1 q h
  have c := red_cross (u := 1 * x.2) (d := 1 * x.1) (by simpa using h)
  have p := qt_pow r n
  have hn : x.1 ^ n ≠ 0 := Int.pow_ne_zero h
  show red (1 * x.2 ^ n) (1 * x.1 ^ n) = _
  refine red_uniq (by simpa using hn) p.pos p.cop ?_
  show (red (1 * x.2) (1 * x.1)).1 ^ n * (1 * x.1 ^ n) = 1 * x.2 ^ n * (red (1 * x.2) (1 * x.1)).2 ^ n
  simp only [Int.one_mul] at c ⊢
  rw [← Int.mul_pow, ← Int.mul_pow, c]
theorem sum_fold {a : Nat} (ha : 0 < a) : ∀ (l : List (Int × Int)), (∀ x ∈ l, Qt a x) → ∀ (b : Nat) (f : Int × Int), Qt b f → Qt (b + (a + 1) * l.length) (l.foldl sumQ f)
  | [], _, b, f, q => q
  | x :: l, h, b, f, q => by
    have := sum_fold ha l (fun y hy => h y (List.mem_cons_of_mem _ hy)) (b + a + 1) (sumQ f x) (qt_sum q (h x List.mem_cons_self))
    refine this.le ?_
    rw [List.length_cons, Nat.mul_succ]
    omega
end RV
set_option Elab.async false
set_option linter.all false
set_option maxRecDepth 100000
set_option autoImplicit false
set_option maxHeartbeats 4000000
namespace RV.K00
open PySem PySem.Spec PyProof.Rows L2
variable {k : Nat} {h : AH} {n m : Nat} {x y : Int × Int}
theorem v_topower {a : Nat} {v i : Int} (hv : Lt2 a v) (h0 : 0 ≤ i) (hb : a * i.toNat + 1 ≤ 8000) (hN : i ≤ 1000) (hle : a ≤ 8000) : evC prg (k + 1) 2 [.int v, .int i] h = .ok (.int (v ^ i.toNat)) h := by
  refine ent [some (.int v), some (.int i), none, none] (show prg[2]? = some f_to_power from rfl) rfl rfl ?_
  generalize hn : i.toNat = N at *
  obtain ⟨env', h', e, j, t, e1, e2, e3⟩ := loop_ok (tg := evG (evC prg k) (.name 3)) (body := evSs (evC prg k) (.cons (.asg (.name 2) (.op2 .Mult (.var 2) (.var 0))) .nil)) (deps := [])
    (fun r env h' => ∃ j t, env = [some (.int v), some (.int i), some (.int (v ^ j)), t] ∧ j + r.length = N ∧ h' = h) (fun _ _ _ _ => rfl) (fun x r env h' ⟨j, t, e1, e2, e3⟩ => by
      subst e1 e3
      rw [List.length_cons] at e2
      have b := big2 (lt2_pow hv j) hv (Nat.le_trans (Nat.succ_le_succ (Nat.mul_le_mul_left a (show j ≤ N by omega))) hb) hle
      refine ⟨_, _, [some (.int v), some (.int i), some (.int (v ^ (j + 1))), some x], h', rfl, ?_, j + 1, _, rfl, by omega, rfl⟩
      simp only [evSs, evS, evE, evG, var, R.bind_ok, List.set_cons_succ, List.set_cons_zero, List.getElem?_cons_zero, List.getElem?_cons_succ, mulP b, Int.pow_succ]) (rngL 0 N) [some (.int v), some (.int i), some (.int 1), none] h ⟨0, none, by simp, by rw [rng_len]; omega, rfl⟩
  rw [List.length_nil] at e2
  subst e1 e3
  have hj : j = N := by omega
  subst hj
  rw [ss_nx (env1 := [some (.int v), some (.int i), some (.int 1), none]) (h1 := h') (by simp only [evS, evE, evG, R.bind_ok, List.set_cons_succ, List.set_cons_zero])]
  rw [ss_nx (for_nx (h1 := h') (by simp only [evI, evE, var, List.getElem?_cons_succ, List.getElem?_cons_zero, R.bind_ok]; exact rng1_int h0 (by omega)) (by rw [hn]; exact e))]
  exact ss_rt (by simp only [evS, evE, var, R.bind_ok, List.getElem?_cons_zero, List.getElem?_cons_succ])
theorem v_raised0 {a : Nat} {i : Int} (q : Qt a x) (h0 : 0 ≤ i) (hb : a * i.toNat + 1 ≤ 8000) (hN : i ≤ 1000) (hle : a ≤ 8000) : evC prg (k + 2) 15 [qd x, .int i] h = .ok (qd (powQ i.toNat x)) h := by
  refine ent (k := k + 1) [some (qd x), some (.int i)] (show prg[15]? = some f_raised from rfl) rfl rfl ?_
  have c : decide (i < 0) = false := decide_eq_false (by omega)
  show _ = R.ok (Fl.rt (.tup [.int (x.1 ^ i.toNat), .int (x.2 ^ i.toNat)])) h
  simp only [evSs, evS, evE, evEs, evB, var, R.bind_ok, List.getElem?_cons_zero, List.getElem?_cons_succ, tru_bl, ofO, cmpP, c, Bool.false_eq_true, if_false, sub0, sub1, v_topower (k := k) q.l1 h0 hb hN hle, v_topower (k := k) q.l2 h0 hb hN hle, List.length_cons, List.length_nil, sz2, if_true]
theorem glob_one : c_ONE = qd (1, 1) := rfl
theorem glob_zero : c_ZERO = qd (0, 1) := rfl
theorem v_raised1 {a : Nat} {i : Int} (q : Qt a x) (h0 : x.1 ≠ 0) (hb : (1 + a) * (-i).toNat + 1 ≤ 8000) (hN : -1000 ≤ i) (hN1 : i < 0) (hle : a ≤ 2000) : evC prg (k + 3) 15 [qd x, .int i] h = .ok (qd (powQ (-i).toNat (ovQ (1, 1) x))) h := by
  refine ent (k := k + 2) [some (qd x), some (.int i)] (show prg[15]? = some f_raised from rfl) rfl rfl ?_
  have c : decide (i < 0) = true := decide_eq_true hN1
  have r := qt_ov q1 q h0
  have e1 : evS (evC prg (k + 2)) (.ifs (.cmp .Lt (.var 1) (.lit (.int (0)))) (.cons (.asg (.tup (.cons (.name 0) (.cons (.name 1) .nil))) (.tup (.cons (.call 14 (.cons (.glob 1 c_ONE) (.cons (.var 0) .nil))) (.cons (.neg (.var 1)) .nil))))
    .nil) .nil) [some (qd x), some (.int i)] h = .ok (.nx [some (qd (ovQ (1, 1) x)), some (.int (-i))]) h := by
    simp only [evSs, evS, evE, evEs, evB, evG, evGs, var, R.bind_ok, List.getElem?_cons_zero, List.getElem?_cons_succ, tru_bl, ofO, cmpP, c, if_true, glob_one, v_divided (k := k) q1 q h0 (show 1 + a ≤ 3000 by omega), List.length_cons, List.length_nil, sz2, Tgs.len, List.set_cons_zero, List.set_cons_succ]
  rw [ss_nx e1]
  show _ = R.ok (Fl.rt (.tup [.int ((ovQ (1, 1) x).1 ^ (-i).toNat), .int ((ovQ (1, 1) x).2 ^ (-i).toNat)])) h
  simp only [evSs, evS, evE, evEs, evB, var, R.bind_ok, List.getElem?_cons_zero, List.getElem?_cons_succ, sub0, sub1, v_topower (k := k + 1) r.l1 (show 0 ≤ -i by omega) hb (show -i ≤ 1000 by omega) (show 1 + a ≤ 8000 by omega), v_topower (k := k + 1) r.l2 (show 0 ≤ -i by omega) hb (show -i ≤ 1000 by omega) (show 1 + a ≤ 8000 by omega), List.length_cons, List.length_nil, sz2, if_true]
/-- what power gives -/
def rai (i : Int) (x : Int × Int) : Int × Int := if i < 0 then powQ i.natAbs (ovQ (1, 1) x) else powQ i.natAbs x
theorem v_power {a : Nat} {i : Int} (q : Qt a x) (ha : a ≤ 140) (hi : -5 ≤ i ∧ i ≤ 5) (h0 : i < 0 → x ≠ (0, 1)) : evC prg (k + 5) 22 [qd x, .int i] h = .ok (qd (rai i x)) h := by
  refine ent (k := k + 4) [some (qd x), some (.int i)] (show prg[22]? = some f_power from rfl) rfl rfl ?_
  have c1 : decide (-100 ≤ i) = true := decide_eq_true (by omega)
  have c2 : decide (i ≤ 100) = true := decide_eq_true (by omega)
  have hr : evC prg (k + 4) 15 [qd x, .int i] h = .ok (qd (rai i x)) h := by
    unfold rai
    by_cases hn : i < 0
    · rw [if_pos hn]
      have := v_raised1 (k := k + 1) (h := h) (i := i) q (num_ne q (h0 hn)) (by
        have : (1 + a) * (-i).toNat ≤ 141 * 5 := Nat.mul_le_mul (by omega) (by omega)
        omega) (by omega) (by omega) (by omega)
      rw [show (-i).toNat = i.natAbs by omega] at this
      exact this
    · rw [if_neg hn]
      have := v_raised0 (k := k + 2) (h := h) (i := i) q (by omega) (by
        have : a * i.toNat ≤ 140 * 5 := Nat.mul_le_mul (by omega) (by omega)
        omega) (by omega) (by omega)
      rw [show i.toNat = i.natAbs by omega] at this
      exact this
  by_cases hn : i < 0
  · have c3 : decide (i < 0) = true := decide_eq_true hn
    have c4 : decide (x = (0, 1)) = false := decide_eq_false (h0 hn)
    simp only [evSs, evS, evE, evEs, evB, var, R.bind_ok, List.getElem?_cons_zero, List.getElem?_cons_succ, v_check (k := k) (q.le (show a ≤ 600 by omega)), v_integer (k := k + 3), tru_bl, ofO, cmpP, c1, c2, c3, c4, if_true, Bool.not_true, Bool.false_eq_true, if_false, glob_zero, deq_qd, hr]
  · have c3 : decide (i < 0) = false := decide_eq_false hn
    simp only [evSs, evS, evE, evEs, evB, var, R.bind_ok, List.getElem?_cons_zero, List.getElem?_cons_succ, v_check (k := k) (q.le (show a ≤ 600 by omega)), v_integer (k := k + 3), tru_bl, ofO, cmpP, c1, c2, c3, if_true, Bool.not_true, Bool.false_eq_true, if_false, glob_zero, deq_qd, hr]
theorem qt_rai {a : Nat} {i : Int} (q : Qt a x) (ha : a ≤ 140) (hi : -5 ≤ i ∧ i ≤ 5) (h0 : i < 0 → x ≠ (0, 1)) : Qt 800 (rai i x) := by
  unfold rai
  split
  · rename_i hn
    refine (qt_pow (qt_ov q1 q (num_ne q (h0 hn))) _).le ?_
    have : (1 + a) * i.natAbs ≤ 141 * 5 := Nat.mul_le_mul (by omega) (by omega)
    omega
  · refine (qt_pow q _).le ?_
    have : a * i.natAbs ≤ 140 * 5 := Nat.mul_le_mul (by omega) (by omega)
    omega
theorem v_lraised {a : Nat} {i : Int} (q : Qt a x) (ha : a ≤ 140) (hi : -5 ≤ i ∧ i ≤ 5) (h0 : i < 0 → x ≠ (0, 1)) : evC prg (k + 3) 36 [qd x, .int i] h = .ok (qd (rai i x)) h := by
  refine ent (k := k + 2) [some (qd x), some (.int i), none, none] (show prg[36]? = some f__law_raised_to from rfl) rfl rfl ?_
  obtain ⟨env', h', e, j, t, e1, e2, e3⟩ := loop_ok (tg := evG (evC prg (k + 2)) (.name 3)) (body := evSs (evC prg (k + 2)) (.cons (.asg (.name 2) (.call 32 (.cons (.var 2) (.cons (.var 0) .nil)))) .nil)) (deps := [])
    (fun r env h' => ∃ j t, env = [some (qd x), some (.int i), some (qd (powQ j x)), t] ∧ j + r.length = i.natAbs ∧ h' = h) (fun _ _ _ _ => rfl) (fun z r env h' ⟨j, t, e1, e2, e3⟩ => by
      subst e1 e3
      rw [List.length_cons] at e2
      refine ⟨_, _, [some (qd x), some (.int i), some (qd (powQ (j + 1) x)), some z], h', rfl, ?_, j + 1, _, rfl, by omega, rfl⟩
      have : a * j ≤ 140 * 5 := Nat.mul_le_mul ha (by omega)
      rw [← mulQ_pow q j]
      simp only [evSs, evS, evE, evEs, evG, var, R.bind_ok, List.set_cons_succ, List.set_cons_zero, List.getElem?_cons_zero, List.getElem?_cons_succ, v_lproduct (k := k) (qt_pow q j) q (show a * j + 1 + a ≤ 3000 by omega)]) (rngL 0 i.natAbs) [some (qd x), some (.int i), some (qd (1, 1)), none] h ⟨0, none, by simp [powQ], by rw [rng_len]; omega, rfl⟩
  rw [List.length_nil] at e2
  subst e1 e3
  have hj : j = i.natAbs := by omega
  subst hj
  rw [ss_nx (env1 := [some (qd x), some (.int i), some (qd (1, 1)), none]) (h1 := h') (by simp only [evS, evE, evEs, evG, R.bind_ok, List.set_cons_succ, List.set_cons_zero, List.length_cons, List.length_nil, sz2, if_true]; rfl)]
  rw [ss_nx (for_nx (h1 := h') (by simp only [evI, evE, evEs, var, List.getElem?_cons_succ, List.getElem?_cons_zero, R.bind_ok, blt_abs]; exact rng1_int (by split <;> omega) (by split <;> omega)) (by rw [show (if i < 0 then -i else i).toNat = i.natAbs by split <;> omega]; exact e))]
  by_cases hn : i < 0
  · have c : decide (0 ≤ i) = false := decide_eq_false (by omega)
    have hp := qt_pow q i.natAbs
    have : a * i.natAbs ≤ 140 * 5 := Nat.mul_le_mul ha (by omega)
    have h1 : x.1 ^ i.natAbs ≠ 0 := Int.pow_ne_zero (num_ne q (h0 hn))
    refine ss_rt ?_
    rw [show rai i x = ovQ (1, 1) (powQ i.natAbs x) by unfold rai; rw [if_pos hn, powQ_ov q (num_ne q (h0 hn))]]
    have lo := v_lover (k := k) (h := h') q1 hp h1 (by omega)
    have lo' : evC prg (k + 2) 33 [.tup [.int 1, .int 1], qd (powQ i.natAbs x)] h' = _ := lo
    simp only [evS, evE, evEs, var, R.bind_ok, List.getElem?_cons_zero, List.getElem?_cons_succ, cmpP, c, ofO, tru_bl, Bool.false_eq_true, if_false, List.length_cons, List.length_nil, sz2, if_true, lo']
  · have c : decide (0 ≤ i) = true := decide_eq_true (by omega)
    refine ss_rt ?_
    rw [show rai i x = powQ i.natAbs x by unfold rai; rw [if_neg hn]]
    simp only [evS, evE, evEs, var, R.bind_ok, List.getElem?_cons_zero, List.getElem?_cons_succ, cmpP, c, ofO, tru_bl, if_true]
end RV.K00
set_option Elab.async false
set_option linter.all false
set_option maxRecDepth 100000
set_option autoImplicit false
set_option maxHeartbeats 4000000
namespace RV
open PySem PySem.Spec PyProof.Rows L2
/-- a walk over a tuple -/
theorem ss_ex {call : Call} {e : CE} {cs : CSs} {env : En} {h h1 : AH} {d : D} (q : evE call e env h = .ok d h1) : evSs call (.cons (.expr e) cs) env h = evSs call cs env h1 := ss_nx (by rw [evS, q]; rfl)
end RV
namespace RV.K00
open PySem PySem.Spec PyProof.Rows L2
variable {k : Nat} {h : AH} {n m : Nat} {x y : Int × Int}
theorem v_plus (q : Qt n x) (r : Qt m y) (hn : n ≤ 600) (hm : m ≤ 600) : evC prg (k + 6) 18 [qd x, qd y] h = .ok (qd (sumQ x y)) h := by
  refine ent (k := k + 5) [some (qd x), some (qd y)] (show prg[18]? = some f_plus from rfl) rfl rfl ?_
  simp only [evSs, evS, evE, evEs, evB, var, R.bind_ok, List.getElem?_cons_zero, List.getElem?_cons_succ, v_two (k := k) (q.le hn) (r.le hm), v_added (k := k + 3) q r (show n + m + 1 ≤ 3000 by omega)]
theorem v_minus (q : Qt n x) (r : Qt m y) (hn : n ≤ 600) (hm : m ≤ 600) : evC prg (k + 6) 19 [qd x, qd y] h = .ok (qd (sumQ x (negQ y))) h := by
  refine ent (k := k + 5) [some (qd x), some (qd y)] (show prg[19]? = some f_minus from rfl) rfl rfl ?_
  simp only [evSs, evS, evE, evEs, evB, var, R.bind_ok, List.getElem?_cons_zero, List.getElem?_cons_succ, v_two (k := k) (q.le hn) (r.le hm), v_taken (k := k + 2) q r (show n + m + 1 ≤ 3000 by omega)]
theorem v_times (q : Qt n x) (r : Qt m y) (hn : n ≤ 600) (hm : m ≤ 600) : evC prg (k + 6) 20 [qd x, qd y] h = .ok (qd (mulQ x y)) h := by
  refine ent (k := k + 5) [some (qd x), some (qd y)] (show prg[20]? = some f_times from rfl) rfl rfl ?_
  simp only [evSs, evS, evE, evEs, evB, var, R.bind_ok, List.getElem?_cons_zero, List.getElem?_cons_succ, v_two (k := k) (q.le hn) (r.le hm), v_product (k := k + 3) q r (show n + m ≤ 3000 by omega)]
theorem v_over (q : Qt n x) (r : Qt m y) (hn : n ≤ 600) (hm : m ≤ 600) (h0 : y ≠ (0, 1)) : evC prg (k + 6) 21 [qd x, qd y] h = .ok (qd (ovQ x y)) h := by
  refine ent (k := k + 5) [some (qd x), some (qd y)] (show prg[21]? = some f_over from rfl) rfl rfl ?_
  have c : decide (y = (0, 1)) = false := decide_eq_false h0
  simp only [evSs, evS, evE, evEs, evB, var, R.bind_ok, List.getElem?_cons_zero, List.getElem?_cons_succ, v_two (k := k) (q.le hn) (r.le hm), glob_zero, cmpP, deq_qd, c, ofO, tru_bl, Bool.false_eq_true, if_false, v_divided (k := k + 3) q r (num_ne r h0) (show n + m ≤ 3000 by omega)]
theorem v_less (q : Qt n x) (r : Qt m y) (hn : n ≤ 600) (hm : m ≤ 600) : evC prg (k + 6) 24 [qd x, qd y] h = .ok (.bl (decide (x.1 * y.2 < y.1 * x.2))) h := by
  refine ent (k := k + 5) [some (qd x), some (qd y)] (show prg[24]? = some f_is_less from rfl) rfl rfl ?_
  simp only [evSs, evS, evE, evEs, evB, var, R.bind_ok, List.getElem?_cons_zero, List.getElem?_cons_succ, v_two (k := k) (q.le hn) (r.le hm), v_below (k := k + 4) q r (show n + m ≤ 3000 by omega)]
theorem v_quotient' {u d : Int} (h0 : d ≠ 0) (hu : Lt2 600 u) (hd : Lt2 600 d) : evC prg (k + 3) 9 [.int u, .int d] h = .ok (qd (red u d)) h := by
  refine ent (k := k + 2) [some (.int u), some (.int d)] (show prg[9]? = some f_quotient from rfl) rfl rfl ?_
  have c : decide (d = 0) = false := decide_eq_false h0
  simp only [evSs, evS, evE, evEs, evB, var, R.bind_ok, List.getElem?_cons_zero, List.getElem?_cons_succ, v_told (k := k) hu, v_told (k := k) hd, cmpP, deq_i, c, ofO, tru_bl, Bool.not_true, Bool.false_eq_true, if_false, v_made (k := k + 1) h0 (hu.le (show 600 ≤ 3000 by omega)) (hd.le (show 600 ≤ 3000 by omega))]
/-- rows of quotients -/
def rowsD (l : List (Int × Int)) : D := .tup (l.map qd)
theorem v_summed {l : List (Int × Int)} (hq : ∀ x ∈ l, Qt 140 x) (hl : l.length ≤ 10) : evC prg (k + 3) 17 [rowsD l] h = .ok (qd (l.foldl sumQ (0, 1))) h := by
  refine ent (k := k + 2) [some (rowsD l), none, none] (show prg[17]? = some f_summed from rfl) rfl rfl ?_
  obtain ⟨env', h', e, j, t, e1, e2, e3⟩ := loop_ok (tg := evG (evC prg (k + 2)) (.name 2)) (body := evSs (evC prg (k + 2)) (.cons (.asg (.name 1) (.call 10 (.cons (.var 1) (.cons (.var 2) .nil)))) .nil)) (deps := [])
    (fun r env h' => ∃ j t, env = [some (rowsD l), some (qd ((l.take j).foldl sumQ (0, 1))), t] ∧ r = (l.drop j).map qd ∧ h' = h) (fun _ _ _ _ => rfl) (fun z r env h' ⟨j, t, e1, e2, e3⟩ => by
      subst e1 e3
      have hj : j < l.length := by
        by_cases hj : j < l.length
        · exact hj
        · rw [List.drop_eq_nil_of_le (by omega)] at e2
          cases e2
      rw [List.drop_eq_getElem_cons hj, List.map_cons] at e2
      obtain ⟨rfl, rfl⟩ := List.cons.inj e2
      have qa := sum_fold (a := 140) (by decide) (l.take j) (fun x hx => hq x (List.mem_of_mem_take hx)) 1 (0, 1) q0
      rw [List.length_take, Nat.min_eq_left (by omega)] at qa
      have qb := hq l[j] (List.getElem_mem hj)
      refine ⟨_, _, [some (rowsD l), some (qd ((l.take (j + 1)).foldl sumQ (0, 1))), some (qd l[j])], h', rfl, ?_, j + 1, _, rfl, rfl, rfl⟩
      rw [List.take_succ_eq_append_getElem hj, List.foldl_append]
      simp only [evSs, evS, evE, evEs, evG, var, R.bind_ok, List.set_cons_succ, List.set_cons_zero, List.getElem?_cons_zero, List.getElem?_cons_succ, v_added (k := k) qa qb (show 1 + (140 + 1) * j + 140 + 1 ≤ 3000 by omega), List.foldl_cons, List.foldl_nil]) (l.map qd) [some (rowsD l), some (qd (0, 1)), none] h ⟨0, none, by simp, by simp, rfl⟩
  have hj : l.length ≤ j := by
    have := congrArg List.length e2
    simp at this
    omega
  rw [List.take_of_length_le hj] at e1
  subst e1 e3
  rw [ss_nx (env1 := [some (rowsD l), some (qd (0, 1)), none]) (h1 := h') (by simp only [evS, evE, evG, R.bind_ok, List.set_cons_succ, List.set_cons_zero, glob_zero])]
  rw [ss_nx (for_nx (h1 := h') (by simp only [evI, evE, var, List.getElem?_cons_succ, List.getElem?_cons_zero, R.bind_ok]; rfl) e)]
  exact ss_rt (by simp only [evS, evE, var, R.bind_ok, List.getElem?_cons_zero, List.getElem?_cons_succ])
theorem v_ladded {l : List (Int × Int)} (hq : ∀ x ∈ l, Qt 140 x) (hl : l.length ≤ 10) : evC prg (k + 2) 29 [rowsD l] h = .ok (qd (l.foldl sumQ (0, 1))) h := by
  refine ent (k := k + 1) [some (rowsD l), none, none, none] (show prg[29]? = some f__law_added from rfl) rfl rfl ?_
  obtain ⟨env', h', e, j, t, e1, e2, e3⟩ := loop_ok (tg := evG (evC prg (k + 1)) (.name 1)) (body := evSs (evC prg (k + 1)) (.cons (.asg (.tup (.cons (.name 2) (.cons (.name 3) .nil))) (.call 28 (.cons (.op2 .Add (.op2 .Mult (.var 2) (.sub (.var 1) (.lit (.int (1))))) (.op2 .Mult (.sub (.var 1) (.lit (.int (0)))) (.var 3))) (.cons (.op2 .Mult (.var 3) (.sub (.var 1) (.lit (.int (1))))) .nil))))
    .nil)) (deps := [])
    (fun r env h' => ∃ j t, env = [some (rowsD l), t, some (.int ((l.take j).foldl sumQ (0, 1)).1), some (.int ((l.take j).foldl sumQ (0, 1)).2)] ∧ r = (l.drop j).map qd ∧ h' = h) (fun _ _ _ _ => rfl) (fun z r env h' ⟨j, t, e1, e2, e3⟩ => by
      subst e1 e3
      have hj : j < l.length := by
        by_cases hj : j < l.length
        · exact hj
        · rw [List.drop_eq_nil_of_le (by omega)] at e2
          cases e2
      rw [List.drop_eq_getElem_cons hj, List.map_cons] at e2
      obtain ⟨rfl, rfl⟩ := List.cons.inj e2
      have qa := sum_fold (a := 140) (by decide) (l.take j) (fun x hx => hq x (List.mem_of_mem_take hx)) 1 (0, 1) q0
      rw [List.length_take, Nat.min_eq_left (by omega)] at qa
      have qb := hq l[j] (List.getElem_mem hj)
      generalize hf : (l.take j).foldl sumQ (0, 1) = f at *
      have hn : 1 + (140 + 1) * j + 140 + 1 ≤ 3000 := by omega
      have m1 := mulP (h := h') (big2 qa.l1 qb.l2 (by omega) (by omega))
      have m2 := mulP (h := h') (big2 qb.l1 qa.l2 (by omega) (by omega))
      have m3 := mulP (h := h') (big2 qa.l2 qb.l2 (by omega) (by omega))
      have md := v_quot (k := k) (h := h') (den_ne qa qb) (sum_l1 qa qb hn) (sum_l2 qa qb hn)
      have e5 : (l.take (j + 1)).foldl sumQ (0, 1) = sumQ f l[j] := by
        rw [List.take_succ_eq_append_getElem hj, List.foldl_append, hf]
        rfl
      refine ⟨_, _, [some (rowsD l), some (qd l[j]), some (.int (sumQ f l[j]).1), some (.int (sumQ f l[j]).2)], h', rfl, ?_, j + 1, some (qd l[j]), by rw [e5], rfl, rfl⟩
      have tg : evG (evC prg (k + 1)) (.tup (.cons (.name 2) (.cons (.name 3) .nil))) (qd (sumQ f l[j])) [some (rowsD l), some (qd l[j]), some (.int f.1), some (.int f.2)] h' = .ok [some (rowsD l), some (qd l[j]), some (.int (sumQ f l[j]).1), some (.int (sumQ f l[j]).2)] h' := rfl
      simp only [sumQ] at tg ⊢
      simp only [evSs, evS, evE, evEs, var, R.bind_ok, List.set_cons_succ, List.set_cons_zero, List.getElem?_cons_zero, List.getElem?_cons_succ, sub0, sub1, m1, m2, m3, addP, md, tg]) (l.map qd) [some (rowsD l), none, some (.int 0), some (.int 1)] h ⟨0, none, by simp, by simp, rfl⟩
  have hj : l.length ≤ j := by
    have := congrArg List.length e2
    simp at this
    omega
  rw [List.take_of_length_le hj] at e1
  subst e1 e3
  rw [ss_nx (env1 := [some (rowsD l), none, some (.int 0), some (.int 1)]) (h1 := h') (by simp only [evS, evE, evEs, evG, evGs, R.bind_ok, List.set_cons_succ, List.set_cons_zero, List.length_cons, List.length_nil, sz2, Tgs.len, if_true])]
  rw [ss_nx (for_nx (h1 := h') (by simp only [evI, evE, var, List.getElem?_cons_succ, List.getElem?_cons_zero, R.bind_ok]; rfl) e)]
  refine ss_rt ?_
  show _ = R.ok (Fl.rt (.tup [.int (l.foldl sumQ (0, 1)).1, .int (l.foldl sumQ (0, 1)).2])) h'
  simp only [evS, evE, evEs, var, R.bind_ok, List.getElem?_cons_zero, List.getElem?_cons_succ, List.length_cons, List.length_nil, sz2, if_true]
end RV.K00
set_option Elab.async false
set_option linter.all false
set_option maxRecDepth 100000
set_option autoImplicit false
set_option maxHeartbeats 4000000
namespace RV
open PySem PySem.Spec PyProof.Rows L2
theorem comp_ok {tg : D → AH → R En} {test : En → AH → R Bool} {elt : En → AH → R D} {deps : List (Nat × Cell)} (I : List D → List D → AH → Prop) (hd : ∀ r acc h, I r acc h → depsOk deps h = true)
    (step : ∀ x r acc h, I (x :: r) acc h → ∃ env h1 h2 y h3, tg x h = .ok env h1 ∧ test env h1 = .ok true h2 ∧ elt env h2 = .ok y h3 ∧ acc.length < SZ ∧ I r (acc ++ [y]) h3) :
    ∀ xs acc h, I xs acc h → ∃ acc' h', evComp tg test elt deps xs acc h = .ok acc' h' ∧ I [] acc' h'
  | [], acc, h, i => ⟨acc, h, by rw [evComp, hd _ _ _ i]; rfl, i⟩
  | x :: r, acc, h, i => by
    obtain ⟨env, h1, h2, y, h3, e1, e2, e3, e4, i2⟩ := step x r acc h i
    obtain ⟨acc', h', e5, i3⟩ := comp_ok I hd step r _ _ i2
    refine ⟨acc', h', ?_, i3⟩
    rw [evComp, hd _ _ _ i, if_pos rfl, e1, R.calm_ok, R.bind_ok, e2, R.calm_ok, R.bind_ok, if_pos rfl, e3, R.calm_ok, R.bind_ok, if_pos e4]
    exact e5
/-- each item by itself, the heap left alone -/
theorem comp_map {tg : D → AH → R En} {test : En → AH → R Bool} {elt : En → AH → R D} {deps : List (Nat × Cell)} {h : AH} (f : D → D) (hd : depsOk deps h = true) :
    ∀ (xs acc : List D), (∀ x ∈ xs, ∃ env, tg x h = .ok env h ∧ test env h = .ok true h ∧ elt env h = .ok (f x) h) → acc.length + xs.length ≤ SZ → evComp tg test elt deps xs acc h = .ok (acc ++ xs.map f) h
  | [], acc, _, _ => by
    rw [evComp, hd]
    simp
  | x :: r, acc, hx, hl => by
    obtain ⟨env, e1, e2, e3⟩ := hx x List.mem_cons_self
    rw [List.length_cons] at hl
    rw [evComp, hd, if_pos rfl, e1, R.calm_ok, R.bind_ok, e2, R.calm_ok, R.bind_ok, if_pos rfl, e3, R.calm_ok, R.bind_ok, if_pos (by omega), comp_map f hd r _ (fun y hy => hx y (List.mem_cons_of_mem _ hy)) (by simp; omega)]
    simp
def startB : CSs :=
    (.cons (.asg (.name 1) (.lit (.int (7))))
    (.cons (.forr (.name 2) (.val (.slice (.var 0) .none (.some (.lit (.int (63)))))) (.cons (.asg (.name 1) (.op2 .Add (.op2 .Mod (.blt .int (.cons (.op2 .Add (.op2 .Mult (.var 1) (.lit (.int (48271)))) (.var 2)) .nil)) (.lit (.int (2147483629)))) (.lit (.int (1)))))
    .nil))
    (.cons (.ret (.alloc (.lst (.cons (.alloc (.lc [2] (.name 2) (.val (.slice (.var 0) .none (.some (.lit (.int (63)))))) .none (.blt .abs (.cons (.blt .int (.cons (.var 2) .nil)) .nil)))) (.cons (.lit (.int (0))) (.cons (.lit (.int (0))) (.cons (.lit (.int (0))) (.cons (.var 1) (.cons (.lit (.int (0))) .nil)))))))))
    .nil)))
theorem cut_int (ns : List Int) (lo hi : Option Int) : ∃ ms : List Int, cutL (ns.map D.int) lo hi = ms.map .int ∧ ms.length ≤ ns.length := by
  unfold cutL
  rw [← List.map_drop, ← List.map_take]
  exact ⟨_, rfl, by simp; omega⟩
theorem get_new {h : AH} {c : Cell} : (h ++ [c])[h.length]? = some c := by simp
theorem start_ok {P : List Fn} {k j : Nat} {ns : List Int} (hP : P[j]? = some ⟨1, 3, startB⟩) (hn : ns.length ≤ 63) : ∃ n m h', evC P (k + 1) j [.rol (ns.map .int)] [] = .ok (.ref n) h' ∧ StOk h' n m 0 := by
  obtain ⟨ms, hc, hl⟩ := cut_int ns none (some 63)
  -- the seed
  obtain ⟨env', h', e, s, t, e1, s0, s1, e2, e3⟩ := loop_ok (tg := evG (evC P k) (.name 2)) (body := evSs (evC P k) (.cons (.asg (.name 1) (.op2 .Add (.op2 .Mod (.blt .int (.cons (.op2 .Add (.op2 .Mult (.var 1) (.lit (.int (48271)))) (.var 2)) .nil)) (.lit (.int (2147483629)))) (.lit (.int (1)))))
    .nil)) (deps := [(0, .lst (ms.map .int))])
    (fun r env h' => ∃ s t, env = [some (.rol (ns.map .int)), some (.int s), t] ∧ 0 ≤ s ∧ s < 2147483648 ∧ (∃ rs : List Int, r = rs.map .int) ∧ h' = [.lst (ms.map .int)]) (fun r env h' ⟨s, t, _, _, _, _, e⟩ => by
      subst e
      simp [depsOk]) (fun x r env h' ⟨s, t, e1, s0, s1, ⟨rs, e2⟩, e3⟩ => by
      subst e1 e3
      cases rs with
      | nil => cases e2
      | cons c rs =>
        rw [List.map_cons] at e2
        obtain ⟨rfl, rfl⟩ := List.cons.inj e2
        have b1 : Lt2 31 s := by unfold Lt2; omega
        have b2 : Lt2 16 (48271 : Int) := by unfold Lt2; decide
        have m1 := mulP (h := [Cell.lst (ms.map .int)]) (big2 b1 b2 (by decide) (by decide))
        have m2 : prim2 .Mod (.int (s * 48271 + c)) (.int 2147483629) [Cell.lst (ms.map .int)] = .ok (.int ((s * 48271 + c) % 2147483629)) [Cell.lst (ms.map .int)] := by simp [prim2]
        refine ⟨_, _, [some (.rol (ns.map .int)), some (.int ((s * 48271 + c) % 2147483629 + 1)), some (.int c)], _, rfl, ?_, _, _, rfl, ?_, ?_, ⟨rs, rfl⟩, rfl⟩
        · simp only [evSs, evS, evE, evEs, evG, var, R.bind_ok, List.set_cons_succ, List.set_cons_zero, List.getElem?_cons_zero, List.getElem?_cons_succ, m1, addP, blt_int, m2]
        · have := Int.emod_nonneg (s * 48271 + c) (show (2147483629 : Int) ≠ 0 by decide)
          omega
        · have := Int.emod_lt_of_pos (s * 48271 + c) (show (0 : Int) < 2147483629 by decide)
          omega) (ms.map .int) [some (.rol (ns.map .int)), some (.int 7), none] [.lst (ms.map .int)] ⟨7, none, rfl, by decide, by decide, ⟨ms, rfl⟩, rfl⟩
  subst e1 e3
  refine ⟨3, 2, [.lst (ms.map .int), .lst (ms.map .int), .lst ((ms.map fun i => (if i < 0 then -i else i)).map .int), .lst [.ref 2, .int 0, .int 0, .int 0, .int s, .int 0]], ?_, _, 0, 0, 0, s, 0, rfl, rfl, by decide, by decide, s0, s1, by decide, by decide⟩
  have sl : ∀ g : AH, sliceP (.rol (ns.map .int)) none (some 63) g = .ok (.ref g.length) (g ++ [.lst (ms.map .int)]) := fun g => by
    simp only [sliceP, hc, new]
  rw [evC_at hP rfl]
  show (evSs (evC P k) startB [some (.rol (ns.map .int)), none, none] []).bind (fin []) = _
  unfold startB
  rw [ss_nx (env1 := [some (.rol (ns.map .int)), some (.int 7), none]) (h1 := []) (by simp only [evS, evE, evG, R.bind_ok, List.set_cons_succ, List.set_cons_zero])]
  rw [ss_nx (for_nx (h1 := [.lst (ms.map .int)]) (by
    simp only [evI, evE, evO, var, List.getElem?_cons_succ, List.getElem?_cons_zero, R.bind_ok, sl]
    rfl) e)]
  have cm := comp_map (tg := fun x h => evG (evC P k) (.name 2) x (wipeE [some (.rol (ns.map .int)), some (.int s), t] [2]) h) (test := evF (evC P k) .none) (elt := evE (evC P k) (.blt .abs (.cons (.blt .int (.cons (.var 2) .nil)) .nil)))
    (deps := [(1, .lst (ms.map .int))]) (h := [.lst (ms.map .int), .lst (ms.map .int)]) (fun d => match d with
      | .int i => .int (if i < 0 then -i else i)
      | d => d) (by simp [depsOk]) (ms.map .int) [] (fun x hx => by
        obtain ⟨i, _, rfl⟩ := List.mem_map.mp hx
        refine ⟨_, rfl, by simp only [evF], ?_⟩
        simp only [evE, evEs, var, wipeE, R.bind_ok, List.set_cons_succ, List.set_cons_zero, List.getElem?_cons_zero, List.getElem?_cons_succ, blt_int, blt_abs]) (by simp; have : SZ = 16777216 := rfl; omega)
  rw [List.nil_append] at cm
  have hm : (ms.map D.int).map (fun d => match d with
      | .int i => D.int (if i < 0 then -i else i)
      | d => d) = (ms.map fun i => (if i < 0 then -i else i)).map .int := by simp
  rw [hm] at cm
  have al : evE (evC P k) (.alloc (.lc [2] (.name 2) (.val (.slice (.var 0) .none (.some (.lit (.int (63)))))) .none (.blt .abs (.cons (.blt .int (.cons (.var 2) .nil)) .nil)))) [some (.rol (ns.map .int)), some (.int s), t] [.lst (ms.map .int)] =
      .ok (.ref 2) [.lst (ms.map .int), .lst (ms.map .int), .lst ((ms.map fun i => (if i < 0 then -i else i)).map .int)] := by
    have ei : evI (evC P k) (.val (.slice (.var 0) .none (.some (.lit (.int (63)))))) [some (.rol (ns.map .int)), some (.int s), t] [.lst (ms.map .int)] = .ok (ms.map .int, [(1, .lst (ms.map .int))]) [.lst (ms.map .int), .lst (ms.map .int)] := by
      simp only [evI, evE, evO, var, List.getElem?_cons_succ, List.getElem?_cons_zero, R.bind_ok, sl]
      rfl
    rw [evE, evT, ei, R.bind_ok]
    dsimp only
    rw [cm]
    rfl
  rw [ss_rt (d := .ref 3) (h1 := [.lst (ms.map .int), .lst (ms.map .int), .lst ((ms.map fun i => (if i < 0 then -i else i)).map .int), .lst [.ref 2, .int 0, .int 0, .int 0, .int s, .int 0]]) (by
    rw [evS, evE, evT, evEs, al]
    simp [evEs, evE, var, SZ, new])]
  simp [fin, sweep, D.under]
end RV
namespace RV.K00
open PySem PySem.Spec PyProof.Rows L2
variable {k : Nat} {h : AH} {n m : Nat} {x y : Int × Int}
theorem v_total {l : List (Int × Int)} (hq : ∀ x ∈ l, Qt 140 x) (hl : l.length ≤ 10) : evC prg (k + 5) 23 [rowsD l] h = .ok (qd (l.foldl sumQ (0, 1))) h := by
  refine ent (k := k + 4) [some (rowsD l), none] (show prg[23]? = some f_total from rfl) rfl rfl ?_
  have ht : evT (evC prg (k + 4)) (.lc [1] (.name 1) (.val (.var 0)) .none (.call 6 (.cons (.var 1) .nil))) [some (rowsD l), none] h = .ok ((l.map qd).map fun _ => .bl true) h := by
    have cm := comp_map (tg := fun x h => evG (evC prg (k + 4)) (.name 1) x (wipeE [some (rowsD l), none] [1]) h) (test := evF (evC prg (k + 4)) .none) (elt := evE (evC prg (k + 4)) (.call 6 (.cons (.var 1) .nil))) (deps := []) (h := h) (fun _ => .bl true) rfl (l.map qd) [] (fun z hz => by
      obtain ⟨x, hx, rfl⟩ := List.mem_map.mp hz
      refine ⟨_, rfl, by simp only [evF], ?_⟩
      simp only [evE, evEs, var, wipeE, R.bind_ok, List.set_cons_succ, List.set_cons_zero, List.getElem?_cons_zero, List.getElem?_cons_succ, v_quotient (k := k + 1) ((hq x hx).le (show 140 ≤ 600 by decide))]) (by simp; have : SZ = 16777216 := rfl; omega)
    rw [evT, show evI (evC prg (k + 4)) (.val (.var 0)) [some (rowsD l), none] h = .ok (l.map qd, []) h from rfl, R.bind_ok]
    exact cm
  have ha : bltT .all ((l.map qd).map fun _ => .bl true) h = .ok (.bl true) h := by
    have : ∀ l : List (Int × Int), mapO asBl ((l.map qd).map fun _ => D.bl true) = some (l.map fun _ => true) := fun l => by
      induction l with
      | nil => rfl
      | cons a r ih =>
        rw [List.map_cons, List.map_cons, mapO]
        simp only [asBl, ih, List.map_cons]
    simp only [bltT, this]
    simp
  have ti : isTy (rowsD l) .tup h = some true := rfl
  simp only [evSs, evS, evE, evEs, evB, var, R.bind_ok, List.getElem?_cons_zero, List.getElem?_cons_succ, ti, tru_bl, ofO, Bool.not_true, Bool.false_eq_true, if_false, ht, ha, v_summed (k := k + 1) hq hl]
end RV.K00
set_option Elab.async false
set_option linter.all false
set_option maxRecDepth 100000
set_option autoImplicit false
set_option maxHeartbeats 4000000
namespace RV
open PySem PySem.Spec PyProof.Rows L2
theorem StOk.le {h : AH} {n m B C : Nat} (s : StOk h n m B) (e : B ≤ C) : StOk h n m C := by
  obtain ⟨xs, p, v, c, s, t, h1, h2, h3, h4, h5, h6, h7, h8⟩ := s
  exact ⟨xs, p, v, c, s, t, h1, h2, h3, h4, h5, h6, h7, by omega⟩
theorem if_no {call : Call} {t : CE} {a : CSs} {env : En} {h h' : AH} (e : evB call t env h = .ok false h') : evS call (.ifs t a .nil) env h = .ok (.nx env) h' := by
  rw [evS, e]
  rfl
theorem evB_no {call : Call} {t : CE} {env : En} {h h' : AH} (e : evE call t env h = .ok (.bl false) h') : evB call t env h = .ok false h' := by
  rw [evB, e]
  rfl
theorem tru_i {i : Int} {h : AH} : truthy (.int i) h = some (i != 0) := rfl
end RV
namespace RV.K00
open PySem PySem.Spec PyProof.Rows L2
variable {k : Nat} {h : AH} {n m B : Nat} {x y : Int × Int}
theorem v_draw {many : Int} (st : StOk h n m B) (hB : B < 1000000) (h1 : 0 < many) (h2 : Lt2 200 many) : ∃ r h', evC prg (k + 1) 26 [.ref n, .int many] h = .ok (.int r) h' ∧ 0 ≤ r ∧ r < many ∧ StOk h' n m (B + 1) ∧ h'.length = h.length := by
  obtain ⟨r, h', e, r0, r1, s, l, _⟩ := draw_ok (P := prg) (k := k) (j := 26) rfl st (by omega) h1 (h2.le (by decide))
  exact ⟨r, h', e, r0, r1, s, l⟩
def T40 : Int := 10 ^ 40
theorem p40 : prim2 .Pow (.int 10) (.int 40) h = .ok (.int T40) h := by simp [prim2, T40]
theorem p39 : prim2 .Pow (.int 10) (.int 39) h = .ok (.int (10 ^ 39)) h := by simp [prim2]
theorem t40a : 0 < T40 := by unfold T40; decide
theorem t40b : Lt2 200 T40 := by unfold Lt2 T40; decide
theorem up_ok (o : Option D) (st : StOk h n m B) (hB : B + 2 < 1000000) : ∃ u h', evE (evC prg (k + 1)) (.ite (.call 26 (.cons (.var 0) (.cons (.lit (.int (3))) .nil))) (.op2 .Sub (.call 26 (.cons (.var 0) (.cons (.lit (.int (41))) .nil))) (.lit (.int (20)))) (.op2 .Sub (.call 26 (.cons (.var 0) (.cons (.op2 .Pow (.lit (.int (10))) (.lit (.int (40)))) .nil))) (.op2 .Pow (.lit (.int (10))) (.lit (.int (39))))))
    [some (.ref n), o] h = .ok (.int u) h' ∧ Lt2 134 u ∧ StOk h' n m (B + 2) ∧ h'.length = h.length := by
  obtain ⟨r1, h1, e1, _, _, s1, l1⟩ := v_draw (k := k) (many := 3) st (by omega) (by decide) (by unfold Lt2; decide)
  by_cases c : r1 = 0
  · obtain ⟨r2, h2, e2, a0, a1, s2, l2⟩ := v_draw (k := k) (many := T40) s1 (by omega) t40a t40b
    refine ⟨r2 - 10 ^ 39, h2, ?_, ?_, s2, l2.trans l1⟩
    · subst c
      simp only [evE, evEs, var, R.bind_ok, List.getElem?_cons_zero, List.getElem?_cons_succ, e1, tru_i, ofO, bne_self_eq_false, Bool.false_eq_true, if_false, p40, p39, e2, subP']
    · unfold T40 at a1
      unfold Lt2
      have : (2 : Nat) ^ 134 = 21778071482940061661655974875633165533184 := by decide
      omega
  · obtain ⟨r2, h2, e2, a0, a1, s2, l2⟩ := v_draw (k := k) (many := 41) s1 (by omega) (by decide) (by unfold Lt2; decide)
    refine ⟨r2 - 20, h2, ?_, ?_, s2, l2.trans l1⟩
    · have c' : (r1 != 0) = true := by simp [c]
      simp only [evE, evEs, var, R.bind_ok, List.getElem?_cons_zero, List.getElem?_cons_succ, e1, tru_i, ofO, c', if_true, e2, subP']
    · unfold Lt2
      have : (2 : Nat) ^ 134 = 21778071482940061661655974875633165533184 := by decide
      omega
theorem dn_ok (o : Option D) (st : StOk h n m B) (hB : B + 2 < 1000000) : ∃ u h', evE (evC prg (k + 1)) (.op2 .Add (.lit (.int (1))) (.ite (.call 26 (.cons (.var 0) (.cons (.lit (.int (3))) .nil))) (.call 26 (.cons (.var 0) (.cons (.lit (.int (12))) .nil))) (.call 26 (.cons (.var 0) (.cons (.op2 .Pow (.lit (.int (10))) (.lit (.int (40)))) .nil)))))
    [some (.ref n), o] h = .ok (.int u) h' ∧ 0 < u ∧ Lt2 134 u ∧ StOk h' n m (B + 2) ∧ h'.length = h.length := by
  obtain ⟨r1, h1, e1, _, _, s1, l1⟩ := v_draw (k := k) (many := 3) st (by omega) (by decide) (by unfold Lt2; decide)
  by_cases c : r1 = 0
  · obtain ⟨r2, h2, e2, a0, a1, s2, l2⟩ := v_draw (k := k) (many := T40) s1 (by omega) t40a t40b
    refine ⟨1 + r2, h2, ?_, by omega, ?_, s2, l2.trans l1⟩
    · subst c
      simp only [evE, evEs, var, R.bind_ok, List.getElem?_cons_zero, List.getElem?_cons_succ, e1, tru_i, ofO, bne_self_eq_false, Bool.false_eq_true, if_false, p40, e2, addP]
    · unfold T40 at a1
      unfold Lt2
      have : (2 : Nat) ^ 134 = 21778071482940061661655974875633165533184 := by decide
      omega
  · obtain ⟨r2, h2, e2, a0, a1, s2, l2⟩ := v_draw (k := k) (many := 12) s1 (by omega) (by decide) (by unfold Lt2; decide)
    refine ⟨1 + r2, h2, ?_, by omega, ?_, s2, l2.trans l1⟩
    · have c' : (r1 != 0) = true := by simp [c]
      simp only [evE, evEs, var, R.bind_ok, List.getElem?_cons_zero, List.getElem?_cons_succ, e1, tru_i, ofO, c', if_true, e2, addP]
    · unfold Lt2
      have : (2 : Nat) ^ 134 = 21778071482940061661655974875633165533184 := by decide
      omega
theorem v_drawn (st : StOk h n m B) (hB : B + 4 < 1000000) : ∃ x h', evC prg (k + 2) 35 [.ref n] h = .ok (qd x) h' ∧ Qt 140 x ∧ StOk h' n m (B + 4) ∧ h'.length = h.length := by
  obtain ⟨u, h1, e1, b1, s1, l1⟩ := up_ok (k := k) none st (by omega)
  obtain ⟨d, h2, e2, d0, b2, s2, l2⟩ := dn_ok (k := k) (some (.int u)) s1 (by omega)
  have hd : d ≠ 0 := by omega
  refine ⟨red u d, h2, ?_, qt_red hd (b1.le (by decide)) (b2.le (by decide)), s2.le (by omega), l2.trans l1⟩
  refine entH (k := k + 1) [some (.ref n), none] (show prg[35]? = some f__law_drawn from rfl) rfl rfl ?_ (l2.trans l1)
  rw [ss_nx (env1 := [some (.ref n), some (.int u)]) (h1 := h1) (by rw [evS, e1]; rfl)]
  refine ss_rt ?_
  rw [evS, evE, evEs]
  simp only [evE.eq_1, var, R.bind_ok, List.getElem?_cons_zero, List.getElem?_cons_succ]
  rw [evEs, e2]
  simp only [evEs, R.bind_ok, v_quot (k := k) (h := h2) hd (b1.le (show 134 ≤ 3000 by decide)) (b2.le (show 134 ≤ 3000 by decide))]
end RV.K00
set_option Elab.async false
set_option linter.all false
set_option maxRecDepth 100000
set_option autoImplicit false
set_option maxHeartbeats 4000000
namespace RV.K00
open PySem PySem.Spec PyProof.Rows L2
variable {k : Nat} {h : AH} {n m B : Nat} {x y : Int × Int}
theorem v_same {d : D} (s : Sm h d) : evC prg (k + 1) 27 [d, d] h = .ok (.bl true) h := same_ok rfl s
abbrev cl (k : Nat) : Call := evC prg (k + 10)
section
variable (q : Qt 140 x) (r : Qt 140 y) {a0 a1 a2 a3 a4 a7 a8 a9 : Option D}
include q r
theorem w2 : evS (cl k) (.ifs (.or (.not (.call 27 (.cons (.call 18 (.cons (.var 5) (.cons (.var 6) .nil))) (.cons (.call 30 (.cons (.var 5) (.cons (.var 6) .nil))) .nil)))) (.not (.call 27 (.cons (.call 19 (.cons (.var 5) (.cons (.var 6) .nil))) (.cons (.call 30 (.cons (.var 5) (.cons (.call 31 (.cons (.var 6) .nil)) .nil))) .nil))))) (.cons (.ret (.lit (.bl false)))
    .nil) .nil) [a0, a1, a2, a3, a4, some (qd x), some (qd y), a7, a8, a9] h = .ok (.nx [a0, a1, a2, a3, a4, some (qd x), some (qd y), a7, a8, a9]) h := by
  have e1 : cl k 18 [qd x, qd y] h = _ := v_plus (k := k + 4) q r (by decide) (by decide)
  have e2 : cl k 30 [qd x, qd y] h = _ := v_lsum (k := k + 8) q r (by decide)
  have e3 : cl k 27 [qd (sumQ x y), qd (sumQ x y)] h = _ := v_same (k := k + 9) ((qt_sum q r).sm (by decide))
  have e4 : cl k 19 [qd x, qd y] h = _ := v_minus (k := k + 4) q r (by decide) (by decide)
  have e5 : cl k 31 [qd y] h = _ := v_lturned (k := k + 9) y
  have e6 : cl k 30 [qd x, qd (negQ y)] h = _ := v_lsum (k := k + 8) q (qt_neg r) (by decide)
  have e7 : cl k 27 [qd (sumQ x (negQ y)), qd (sumQ x (negQ y))] h = _ := v_same (k := k + 9) ((qt_sum q (qt_neg r)).sm (by decide))
  refine if_no (evB_no ?_)
  generalize cl k = c at *
  simp only [evE, evEs, var, R.bind_ok, List.getElem?_cons_zero, List.getElem?_cons_succ, e1, e2, e3, e4, e5, e6, e7, tru_bl, ofO, Bool.not_true, Bool.false_eq_true, if_false]
theorem w3 : evS (cl k) (.ifs (.or (.not (.call 27 (.cons (.call 20 (.cons (.var 5) (.cons (.var 6) .nil))) (.cons (.call 32 (.cons (.var 5) (.cons (.var 6) .nil))) .nil)))) (.or (.cmp .NotEq (.call 24 (.cons (.var 5) (.cons (.var 6) .nil))) (.call 34 (.cons (.var 5) (.cons (.var 6) .nil)))) (.call 24 (.cons (.var 5) (.cons (.var 5) .nil))))) (.cons (.ret (.lit (.bl false)))
    .nil) .nil) [a0, a1, a2, a3, a4, some (qd x), some (qd y), a7, a8, a9] h = .ok (.nx [a0, a1, a2, a3, a4, some (qd x), some (qd y), a7, a8, a9]) h := by
  have e1 : cl k 20 [qd x, qd y] h = _ := v_times (k := k + 4) q r (by decide) (by decide)
  have e2 : cl k 32 [qd x, qd y] h = _ := v_lproduct (k := k + 8) q r (by decide)
  have e3 : cl k 27 [qd (mulQ x y), qd (mulQ x y)] h = _ := v_same (k := k + 9) ((qt_mul q r).sm (by decide))
  have e4 : cl k 24 [qd x, qd y] h = _ := v_less (k := k + 4) q r (by decide) (by decide)
  have e5 : cl k 34 [qd x, qd y] h = _ := v_less' (k := k + 9) q r (by decide)
  have e6 : cl k 24 [qd x, qd x] h = _ := v_less (k := k + 4) q q (by decide) (by decide)
  have e7 : decide (x.1 * x.2 < x.1 * x.2) = false := decide_eq_false (by omega)
  rw [e7] at e6
  have e8 : ∀ b : Bool, deq (.bl b) (.bl b) h = some true := fun b => by simp [deq]
  refine if_no (evB_no ?_)
  generalize cl k = c at *
  simp only [evE, evEs, var, R.bind_ok, List.getElem?_cons_zero, List.getElem?_cons_succ, e1, e2, e3, e4, e5, e6, e8, cmpP, tru_bl, ofO, Bool.not_true, Bool.false_eq_true, if_false]
theorem w4 : evS (cl k) (.ifs (.and (.cmp .NotEq (.var 6) (.tup (.cons (.lit (.int (0))) (.cons (.lit (.int (1))) .nil)))) (.not (.call 27 (.cons (.call 21 (.cons (.var 5) (.cons (.var 6) .nil))) (.cons (.call 33 (.cons (.var 5) (.cons (.var 6) .nil))) .nil))))) (.cons (.ret (.lit (.bl false)))
    .nil) .nil) [a0, a1, a2, a3, a4, some (qd x), some (qd y), a7, a8, a9] h = .ok (.nx [a0, a1, a2, a3, a4, some (qd x), some (qd y), a7, a8, a9]) h := by
  have z : deq (qd y) (.tup [.int 0, .int 1]) h = some (decide (y = (0, 1))) := deq_qd (y := (0, 1))
  refine if_no (evB_no ?_)
  by_cases h0 : y = (0, 1)
  · have c : decide (y = (0, 1)) = true := decide_eq_true h0
    rw [c] at z
    simp only [evE, evEs, var, R.bind_ok, List.getElem?_cons_zero, List.getElem?_cons_succ, List.length_cons, List.length_nil, sz2, if_true, cmpP, z, tru_bl, ofO, Bool.not_true, Bool.false_eq_true, if_false]
  · have c : decide (y = (0, 1)) = false := decide_eq_false h0
    rw [c] at z
    have e1 : cl k 21 [qd x, qd y] h = _ := v_over (k := k + 4) q r (by decide) (by decide) h0
    have e2 : cl k 33 [qd x, qd y] h = _ := v_lover (k := k + 8) q r (num_ne r h0) (by decide)
    have e3 : cl k 27 [qd (ovQ x y), qd (ovQ x y)] h = _ := v_same (k := k + 9) ((qt_ov q r (num_ne r h0)).sm (by decide))
    generalize cl k = c at *
    simp only [evE, evEs, var, R.bind_ok, List.getElem?_cons_zero, List.getElem?_cons_succ, List.length_cons, List.length_nil, sz2, if_true, cmpP, z, e1, e2, e3, tru_bl, ofO, Bool.not_true, Bool.not_false, Bool.false_eq_true, if_false]
theorem w6 {i : Int} (hi : -5 ≤ i ∧ i ≤ 5) : evS (cl k) (.ifs (.and (.or (.cmp .GtE (.var 3) (.lit (.int (0)))) (.cmp .NotEq (.var 5) (.tup (.cons (.lit (.int (0))) (.cons (.lit (.int (1))) .nil))))) (.not (.call 27 (.cons (.call 22 (.cons (.var 5) (.cons (.var 3) .nil))) (.cons (.call 36 (.cons (.var 5) (.cons (.var 3) .nil))) .nil))))) (.cons (.ret (.lit (.bl false)))
    .nil) .nil) [a0, a1, a2, some (.int i), a4, some (qd x), some (qd y), a7, a8, a9] h = .ok (.nx [a0, a1, a2, some (.int i), a4, some (qd x), some (qd y), a7, a8, a9]) h := by
  have z : deq (qd x) (.tup [.int 0, .int 1]) h = some (decide (x = (0, 1))) := deq_qd (y := (0, 1))
  refine if_no (evB_no ?_)
  by_cases hz : i < 0 ∧ x = (0, 1)
  · have c : decide (x = (0, 1)) = true := decide_eq_true hz.2
    have c2 : decide (0 ≤ i) = false := decide_eq_false (by omega)
    rw [c] at z
    simp only [evE, evEs, var, R.bind_ok, List.getElem?_cons_zero, List.getElem?_cons_succ, List.length_cons, List.length_nil, sz2, if_true, cmpP, c2, z, tru_bl, ofO, Bool.not_true, Bool.false_eq_true, if_false]
  · have h0 : i < 0 → x ≠ (0, 1) := fun a b => hz ⟨a, b⟩
    have e1 : cl k 22 [qd x, .int i] h = _ := v_power (k := k + 5) q (by decide) hi h0
    have e2 : cl k 36 [qd x, .int i] h = _ := v_lraised (k := k + 7) q (by decide) hi h0
    have e3 : cl k 27 [qd (rai i x), qd (rai i x)] h = _ := v_same (k := k + 9) ((qt_rai q (by decide) hi h0).sm (by decide))
    generalize cl k = c at *
    by_cases hn : i < 0
    · have c2 : decide (0 ≤ i) = false := decide_eq_false (by omega)
      have c3 : decide (x = (0, 1)) = false := decide_eq_false (h0 hn)
      rw [c3] at z
      simp only [evE, evEs, var, R.bind_ok, List.getElem?_cons_zero, List.getElem?_cons_succ, List.length_cons, List.length_nil, sz2, if_true, cmpP, c2, z, e1, e2, e3, tru_bl, ofO, Bool.not_true, Bool.not_false, Bool.false_eq_true, if_false]
    · have c2 : decide (0 ≤ i) = true := decide_eq_true (by omega)
      simp only [evE, evEs, var, R.bind_ok, List.getElem?_cons_zero, List.getElem?_cons_succ, List.length_cons, List.length_nil, sz2, if_true, cmpP, c2, e1, e2, e3, tru_bl, ofO, Bool.not_true, Bool.not_false, Bool.false_eq_true, if_false]
end
section
variable {a0 a1 a2 a3 a4 a5 a6 a7 a8 a9 : Option D}
theorem w1 (st : StOk h n m B) (hB : B + 8 < 1000000) : ∃ x y h', evS (cl k) (.asg (.tup (.cons (.name 5) (.cons (.name 6) .nil))) (.tup (.cons (.call 35 (.cons (.var 1) .nil)) (.cons (.call 35 (.cons (.var 1) .nil)) .nil)))) [a0, some (.ref n), a2, a3, a4, a5, a6, a7, a8, a9] h = .ok (.nx [a0, some (.ref n), a2, a3, a4, some (qd x), some (qd y), a7, a8, a9]) h' ∧ Qt 140 x ∧ Qt 140 y ∧ StOk h' n m (B + 8) := by
  obtain ⟨x, h1, e1, q, s1, _⟩ := v_drawn (k := k + 8) st (by omega)
  obtain ⟨y, h2, e2, r, s2, _⟩ := v_drawn (k := k + 8) s1 (by omega)
  have e1' : cl k 35 [.ref n] h = _ := e1
  have e2' : cl k 35 [.ref n] h1 = _ := e2
  refine ⟨x, y, h2, ?_, q, r, s2⟩
  generalize cl k = c at *
  simp only [evS, evE, evEs, evG, evGs, var, R.bind_ok, List.getElem?_cons_zero, List.getElem?_cons_succ, List.set_cons_zero, List.set_cons_succ, e1', e2', List.length_cons, List.length_nil, sz2, Tgs.len, if_true]
theorem w5 (st : StOk h n m B) (hB : B + 8 < 1000000) : ∃ i h', evS (cl k) (.asg (.name 3) (.op2 .Sub (.call 26 (.cons (.var 1) (.cons (.lit (.int (11))) .nil))) (.lit (.int (5))))) [a0, some (.ref n), a2, a3, a4, a5, a6, a7, a8, a9] h = .ok (.nx [a0, some (.ref n), a2, some (.int i), a4, a5, a6, a7, a8, a9]) h' ∧ (-5 ≤ i ∧ i ≤ 5) ∧ StOk h' n m (B + 1) := by
  obtain ⟨r, h1, e1, r0, r1, s1, _⟩ := v_draw (k := k + 9) (many := 11) st (by omega) (by decide) (by unfold Lt2; decide)
  have e1' : cl k 26 [.ref n, .int 11] h = _ := e1
  refine ⟨r - 5, h1, ?_, by omega, s1⟩
  generalize cl k = c at *
  simp only [evS, evE, evEs, evG, var, R.bind_ok, List.getElem?_cons_zero, List.getElem?_cons_succ, List.set_cons_zero, List.set_cons_succ, e1', subP']
theorem w7 (st : StOk h n m B) (hB : B + 50 < 1000000) : ∃ l h', evS (cl k) (.asg (.name 4) (.bltT .tup (.lc [9] (.name 9) (.rng1 (.call 26 (.cons (.var 1) (.cons (.lit (.int (7))) .nil)))) .none (.call 35 (.cons (.var 1) .nil))))) [a0, some (.ref n), a2, a3, a4, a5, a6, a7, a8, a9] h = .ok (.nx [a0, some (.ref n), a2, a3, some (rowsD l), a5, a6, a7, a8, a9]) h' ∧ (∀ x ∈ l, Qt 140 x) ∧ l.length ≤ 10 ∧ StOk h' n m (B + 50) := by
  obtain ⟨r, h1, e1, r0, r1, s1, _⟩ := v_draw (k := k + 9) (many := 7) st (by omega) (by decide) (by unfold Lt2; decide)
  have e1' : cl k 26 [.ref n, .int 7] h = _ := e1
  obtain ⟨acc, h2, e2, l, B', e3, hq, hl, s2, hB'⟩ := comp_ok (tg := fun x h => evG (cl k) (.name 9) x (wipeE [a0, some (.ref n), a2, a3, a4, a5, a6, a7, a8, a9] [9]) h) (test := evF (cl k) .none) (elt := evE (cl k) (.call 35 (.cons (.var 1) .nil))) (deps := [])
    (fun r acc h' => ∃ l B', acc = l.map qd ∧ (∀ x ∈ l, Qt 140 x) ∧ l.length + r.length ≤ 7 ∧ StOk h' n m B' ∧ B' + 4 * r.length ≤ B + 40) (fun _ _ _ _ => rfl) (fun z r acc h' ⟨l, B', e3, hq, hl, s, hB'⟩ => by
      rw [List.length_cons] at hl hB'
      obtain ⟨x, h3, e4, q, s3, _⟩ := v_drawn (k := k + 8) s (by omega)
      have e4' : cl k 35 [.ref n] h' = _ := e4
      refine ⟨_, h', h', qd x, h3, rfl, by simp only [evF], ?_, ?_, l ++ [x], B' + 4, by rw [e3]; simp, fun y hy => ?_, by simp; omega, s3, by omega⟩
      · generalize cl k = c at *
        simp only [evE, evEs, var, wipeE, R.bind_ok, List.getElem?_cons_zero, List.getElem?_cons_succ, List.set_cons_zero, List.set_cons_succ, e4']
      · rw [e3, List.length_map]
        have : SZ = 16777216 := rfl
        omega
      · rcases List.mem_append.mp hy with hy | hy
        · exact hq y hy
        · rw [List.mem_singleton.mp hy]
          exact q) (rngL 0 r.toNat) [] h1 ⟨[], B + 1, rfl, by simp, by rw [rng_len]; simp; omega, s1, by rw [rng_len]; omega⟩
  subst e3
  refine ⟨l, h2, ?_, hq, by simp at hl; omega, s2.le (by omega)⟩
  have ei : evI (cl k) (.rng1 (.call 26 (.cons (.var 1) (.cons (.lit (.int (7))) .nil)))) [a0, some (.ref n), a2, a3, a4, a5, a6, a7, a8, a9] h = .ok (rngL 0 r.toNat, []) h1 := by
    generalize cl k = c at *
    simp only [evI, evE, evEs, var, R.bind_ok, List.getElem?_cons_zero, List.getElem?_cons_succ, e1']
    exact rng1_int r0 (by omega)
  rw [evS, evE, evT, ei, R.bind_ok]
  dsimp only
  rw [e2, R.bind_ok]
  rfl
theorem w8 {l : List (Int × Int)} (hq : ∀ x ∈ l, Qt 140 x) (hl : l.length ≤ 10) : evS (cl k) (.ifs (.not (.call 27 (.cons (.call 23 (.cons (.var 4) .nil)) (.cons (.call 29 (.cons (.var 4) .nil)) .nil)))) (.cons (.ret (.lit (.bl false)))
    .nil) .nil) [a0, a1, a2, a3, some (rowsD l), a5, a6, a7, a8, a9] h = .ok (.nx [a0, a1, a2, a3, some (rowsD l), a5, a6, a7, a8, a9]) h := by
  have e1 : cl k 23 [rowsD l] h = _ := v_total (k := k + 5) hq hl
  have e2 : cl k 29 [rowsD l] h = _ := v_ladded (k := k + 8) hq hl
  have e3 : cl k 27 [qd (l.foldl sumQ (0, 1)), qd (l.foldl sumQ (0, 1))] h = _ := v_same (k := k + 9) ((sum_fold (a := 140) (by decide) l hq 1 (0, 1) q0).sm (by omega))
  refine if_no (evB_no ?_)
  generalize cl k = c at *
  simp only [evE, evEs, var, R.bind_ok, List.getElem?_cons_zero, List.getElem?_cons_succ, e1, e2, e3, tru_bl, ofO, Bool.not_true]
theorem w9 (st : StOk h n m B) (hB : B + 50 < 1000000) : ∃ u d h', evS (cl k) (.asg (.tup (.cons (.name 7) (.cons (.name 8) .nil))) (.tup (.cons (.op2 .Sub (.call 26 (.cons (.var 1) (.cons (.lit (.int (200))) .nil))) (.lit (.int (100)))) (.cons (.op2 .Sub (.call 26 (.cons (.var 1) (.cons (.lit (.int (60))) .nil))) (.lit (.int (30)))) .nil)))) [a0, some (.ref n), a2, a3, a4, a5, a6, a7, a8, a9] h = .ok (.nx [a0, some (.ref n), a2, a3, a4, a5, a6, some (.int u), some (.int d), a9]) h' ∧ Lt2 20 u ∧ Lt2 20 d ∧ StOk h' n m (B + 2) := by
  obtain ⟨r, h1, e1, r0, r1, s1, _⟩ := v_draw (k := k + 9) (many := 200) st (by omega) (by decide) (by unfold Lt2; decide)
  obtain ⟨t, h2, e2, t0, t1, s2, _⟩ := v_draw (k := k + 9) (many := 60) s1 (by omega) (by decide) (by unfold Lt2; decide)
  have e1' : cl k 26 [.ref n, .int 200] h = _ := e1
  have e2' : cl k 26 [.ref n, .int 60] h1 = _ := e2
  refine ⟨r - 100, t - 30, h2, ?_, by unfold Lt2; omega, by unfold Lt2; omega, s2⟩
  generalize cl k = c at *
  simp only [evS, evE, evEs, evG, evGs, var, R.bind_ok, List.getElem?_cons_zero, List.getElem?_cons_succ, List.set_cons_zero, List.set_cons_succ, e1', e2', subP', List.length_cons, List.length_nil, sz2, Tgs.len, if_true]
theorem w10 {u d : Int} (hu : Lt2 20 u) (hd : Lt2 20 d) : evS (cl k) (.ifs (.and (.var 8) (.not (.call 27 (.cons (.call 9 (.cons (.var 7) (.cons (.var 8) .nil))) (.cons (.call 28 (.cons (.var 7) (.cons (.var 8) .nil))) .nil))))) (.cons (.ret (.lit (.bl false)))
    .nil) .nil) [a0, a1, a2, a3, a4, a5, a6, some (.int u), some (.int d), a9] h = .ok (.nx [a0, a1, a2, a3, a4, a5, a6, some (.int u), some (.int d), a9]) h := by
  by_cases h0 : d = 0
  · refine if_no ?_
    subst h0
    simp only [evB, evE, var, R.bind_ok, List.getElem?_cons_zero, List.getElem?_cons_succ, tru_i, ofO, bne_self_eq_false, Bool.false_eq_true, if_false]
  · have e1 : cl k 9 [.int u, .int d] h = _ := v_quotient' (k := k + 7) h0 (hu.le (by decide)) (hd.le (by decide))
    have e2 : cl k 28 [.int u, .int d] h = _ := v_quot (k := k + 9) h0 (hu.le (by decide)) (hd.le (by decide))
    have e3 : cl k 27 [qd (red u d), qd (red u d)] h = _ := v_same (k := k + 9) ((qt_red h0 hu hd).sm (by decide))
    have c' : (d != 0) = true := by simp [h0]
    refine if_no (evB_no ?_)
    generalize cl k = c at *
    simp only [evE, evEs, var, R.bind_ok, List.getElem?_cons_zero, List.getElem?_cons_succ, e1, e2, e3, tru_bl, tru_i, c', if_true, ofO, Bool.not_true]
theorem w11 : evS (cl k) (.ifs (.or (.cmp .NotEq (.call 22 (.cons (.tup (.cons (.lit (.int (0))) (.cons (.lit (.int (1))) .nil))) (.cons (.lit (.int (0))) .nil))) (.tup (.cons (.lit (.int (1))) (.cons (.lit (.int (1))) .nil)))) (.or (.cmp .NotEq (.call 23 (.cons (.tup .nil) .nil)) (.tup (.cons (.lit (.int (0))) (.cons (.lit (.int (1))) .nil)))) (.cmp .NotEq (.call 9 (.cons (.lit (.int (0))) (.cons (.op2 .Sub (.lit (.int (0))) (.lit (.int (7)))) .nil))) (.tup (.cons (.lit (.int (0))) (.cons (.lit (.int (1))) .nil)))))) (.cons (.ret (.lit (.bl false)))
    .nil) .nil) [a0, a1, a2, a3, a4, a5, a6, a7, a8, a9] h = .ok (.nx [a0, a1, a2, a3, a4, a5, a6, a7, a8, a9]) h := by
  have e1 : cl k 22 [.tup [.int 0, .int 1], .int 0] h = _ := v_power (k := k + 5) (x := (0, 1)) (i := 0) (q0.le (show 1 ≤ 140 by decide)) (by decide) (by decide) (by decide)
  have e2 : cl k 23 [.tup []] h = _ := v_total (k := k + 5) (l := []) (by simp) (by simp)
  have e3 : cl k 9 [.int 0, .int (0 - 7)] h = _ := v_quotient' (k := k + 7) (u := 0) (d := 0 - 7) (by decide) (by unfold Lt2; decide) (by unfold Lt2; decide)
  have r1 : rai 0 (0, 1) = (1, 1) := by simp [rai, powQ]
  have r2 : red 0 (0 - 7) = (0, 1) := red_uniq (by decide) (by decide) (by decide) (by decide)
  have z : ∀ a b c d : Int, deq (qd (a, b)) (.tup [.int c, .int d]) h = some (decide ((a, b) = (c, d))) := fun a b c d => deq_qd (y := (c, d))
  rw [r1] at e1
  rw [r2] at e3
  refine if_no (evB_no ?_)
  generalize cl k = c at *
  simp only [evE, evEs, var, R.bind_ok, List.getElem?_cons_zero, List.getElem?_cons_succ, e1, e2, e3, subP', tru_bl, ofO, cmpP, z, List.foldl_nil, List.length_cons, List.length_nil, sz0, sz2, if_true, decide_true, Bool.not_true, Bool.false_eq_true, if_false]
end
theorem law_ok (ns : List Int) (hn : ns.length ≤ 63) : ∃ h', evC prg (k + 11) 37 [.rol (ns.map .int)] [] = .ok (.bl true) h' := by
  obtain ⟨n, m, h0, e0, s0⟩ := start_ok (P := prg) (k := k + 9) (j := 25) rfl hn
  have e0' : cl k 25 [.rol (ns.map .int)] [] = .ok (.ref n) h0 := e0
  obtain ⟨env', h', e, a2, a3, a4, a5, a6, a7, a8, a9, B, e1, s1, _⟩ := loop_ok (tg := evG (cl k) (.name 2)) (body := evSs (cl k) (match f_law.body with
      | .cons _ (.cons (.forr _ _ b) _) => b
      | _ => .nil)) (deps := [])
    (fun r env h' => ∃ a2 a3 a4 a5 a6 a7 a8 a9 B, env = [some (.rol (ns.map .int)), some (.ref n), a2, a3, a4, a5, a6, a7, a8, a9] ∧ StOk h' n m B ∧ B + 100 * r.length ≤ 2000) (fun _ _ _ _ => rfl) (fun z r env h1 ⟨a2, a3, a4, a5, a6, a7, a8, a9, B, e1, s, hB⟩ => by
      subst e1
      rw [List.length_cons] at hB
      obtain ⟨x, y, h2, g1, q, r', s2⟩ := w1 (k := k) (a0 := some (.rol (ns.map .int))) (a2 := some z) (a3 := a3) (a4 := a4) (a5 := a5) (a6 := a6) (a7 := a7) (a8 := a8) (a9 := a9) s (by omega)
      obtain ⟨i, h3, g5, hi, s3⟩ := w5 (k := k) (a0 := some (.rol (ns.map .int))) (a2 := some z) (a3 := a3) (a4 := a4) (a5 := some (qd x)) (a6 := some (qd y)) (a7 := a7) (a8 := a8) (a9 := a9) s2 (by omega)
      obtain ⟨l, h4, g7, hq, hl, s4⟩ := w7 (k := k) (a0 := some (.rol (ns.map .int))) (a2 := some z) (a3 := some (.int i)) (a4 := a4) (a5 := some (qd x)) (a6 := some (qd y)) (a7 := a7) (a8 := a8) (a9 := a9) s3 (by omega)
      obtain ⟨u, d, h5, g9, hu, hd, s5⟩ := w9 (k := k) (a0 := some (.rol (ns.map .int))) (a2 := some z) (a3 := some (.int i)) (a4 := some (rowsD l)) (a5 := some (qd x)) (a6 := some (qd y)) (a7 := a7) (a8 := a8) (a9 := a9) s4 (by omega)
      refine ⟨_, _, [some (.rol (ns.map .int)), some (.ref n), some z, some (.int i), some (rowsD l), some (qd x), some (qd y), some (.int u), some (.int d), a9], h5, rfl, ?_, _, _, _, _, _, _, _, _, _, rfl, s5, by omega⟩
      unfold f_law
      dsimp only
      show evSs (cl k) _ [some (.rol (ns.map .int)), some (.ref n), some z, a3, a4, a5, a6, a7, a8, a9] h1 = _
      rw [ss_nx g1, ss_nx (w2 q r'), ss_nx (w3 q r'), ss_nx (w4 q r'), ss_nx g5, ss_nx (w6 q r' hi), ss_nx g7, ss_nx (w8 hq hl), ss_nx g9, ss_nx (w10 hu hd), ss_nx w11, evSs]) (rngL 0 12) [some (.rol (ns.map .int)), some (.ref n), none, none, none, none, none, none, none, none] h0 ⟨none, none, none, none, none, none, none, none, 0, rfl, s0, by rw [rng_len]; decide⟩
  subst e1
  rw [evC_at (k := k + 10) (fn := f_law) rfl rfl]
  show ∃ g, (evSs (cl k) f_law.body [some (.rol (ns.map .int)), none, none, none, none, none, none, none, none, none] []).bind (fin []) = .ok (.bl true) g
  refine ⟨[], ?_⟩
  have st : evSs (cl k) f_law.body [some (.rol (ns.map .int)), none, none, none, none, none, none, none, none, none] [] = .ok (.rt (.bl true)) h' := by
    unfold f_law
    rw [ss_nx (env1 := [some (.rol (ns.map .int)), some (.ref n), none, none, none, none, none, none, none, none]) (h1 := h0) (by
      generalize cl k = c at *
      simp only [evS, evE, evEs, evG, var, R.bind_ok, List.getElem?_cons_zero, e0', List.set_cons_zero, List.set_cons_succ])]
    refine Eq.trans (ss_nx (for_nx (t := .name 2) (src := rngL 0 12) (deps := []) (h1 := h0) (by
      simp only [evI, evE, R.bind_ok]
      exact rng1_int (i := 12) (by decide) (by decide)) e)) ?_
    exact ss_rt (by simp only [evS, evE, R.bind_ok])
  rw [st, R.bind_ok]
  simp [fin, sweep, D.under]
end RV.K00
set_option Elab.async false
set_option linter.all false
set_option maxRecDepth 100000
set_option maxHeartbeats 0
namespace RV.K00
open PySem PySem.Spec PyProof.Rows L2
abbrev R : PySem.W.OpenRow := PySem.W.OpenLaw.row PySem.Challenge.rw_everyslope_k00_quotients_reckoned
abbrev hk : PySem.W.Hook := hookR 5 tabl (defsOf tabl sts)
def ob (s : PySem.W.SharedT) : AlR := obsRG 5 tabl (defsOf tabl sts) (HandSHeadRun.getT s)
theorem ob_eq (s : PySem.W.SharedT) : ob s = hk.obs s.abs := obsRG_eq (HandSHeadRun.getT_eq s)
def loose : List PySem.Str := ("SlopeError" : PySem.Str) :: ("ArgumentError" : PySem.Str) :: ("BEYOND" : PySem.Str) :: ("is_integer" : PySem.Str) :: ("is_told" : PySem.Str) :: ("to_power" : PySem.Str) :: ("ZERO" : PySem.Str) :: ("ONE" : PySem.Str) :: ("made" : PySem.Str) :: ("is_great" : PySem.Str) :: ("is_any" : PySem.Str) :: ("is_quotient" : PySem.Str) :: ("check_quotient" : PySem.Str) :: ("check_two" : PySem.Str) :: ("quotient" : PySem.Str) :: ("added" : PySem.Str) :: ("turned" : PySem.Str) :: ("taken" : PySem.Str) :: ("product" : PySem.Str) :: ("divided" : PySem.Str) :: ("raised" : PySem.Str) :: ("below" : PySem.Str) :: ("summed" : PySem.Str) :: ("plus" : PySem.Str) :: ("minus" : PySem.Str) :: ("times" : PySem.Str) :: ("over" : PySem.Str) :: ("power" : PySem.Str) :: ("total" : PySem.Str) :: ("is_less" : PySem.Str) :: ("_law_start" : PySem.Str) :: ("_law_draw" : PySem.Str) :: ("_law_same" : PySem.Str) :: ("_law_quotient" : PySem.Str) :: ("_law_added" : PySem.Str) :: ("_law_sum" : PySem.Str) :: ("_law_turned" : PySem.Str) :: ("_law_product" : PySem.Str) :: ("_law_over" : PySem.Str) :: ("_law_less" : PySem.Str) :: ("_law_drawn" : PySem.Str) :: ("_law_raised_to" : PySem.Str) :: []
theorem run (w : World) : HandSHeadRun.RunEqI R (PySem.W.view R.prog [0, 47]) hk ob 6000 loose w := by
  delta HandSHeadRun.RunEqI
  kernel_rfl
end RV.K00
open PySem PySem.W PySem.Calls PyProof.Rows
theorem k00_end (law : ∀ ns : List Int, ns.length ≤ 63 → ∃ h', RV.evC RV.K00.prg 60 37 [.rol (ns.map .int)] [] = .ok (.bl true) h') : PySem.Challenge.rw_everyslope_k00_quotients_reckoned.Holds := by
  w_on; o_law
  refine HandSHeadRun.head_imp (r := OpenLaw.row PySem.Challenge.rw_everyslope_k00_quotients_reckoned) (q := view (OpenLaw.row PySem.Challenge.rw_everyslope_k00_quotients_reckoned).prog [0, 47]) (H := RV.K00.hk) (ob := RV.K00.ob) (M := 6000) (loose := RV.K00.loose) (d := HandSHeadRun.topDef (OpenLaw.row PySem.Challenge.rw_everyslope_k00_quotients_reckoned).prog 47) (kwd := []) RV.K00.ob_eq
    RV.K00.run (by kernel_rfl) (by kernel_rfl) (by kernel_rfl) (by rfl) (by first | assumption | decide +kernel) (by decide +kernel) ⟨rfl, rfl, rfl, rfl, rfl, by decide +kernel⟩ ?hw ?hc
  case hw => w_witness2
  case hc =>
    exact RV.walk_R (l := PySem.Challenge.rw_everyslope_k00_quotients_reckoned) (n := 63) (k := 60) (x := "script") (st := RV.K00.top 47) rfl (by decide) (by kernel_rfl) ⟨rfl, by decide, by decide⟩ (by kernel_rfl) (by rfl) (by kernel_rfl) RV.K00.parts law
theorem PySem.Challenge.cw_everyslope_k00_quotients_reckoned_holds : PySem.Challenge.rw_everyslope_k00_quotients_reckoned.Holds := by
  exact k00_end fun ns hn => RV.K00.law_ok (k := 49) ns hn
