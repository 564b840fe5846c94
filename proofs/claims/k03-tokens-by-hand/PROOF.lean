import PyProof.Rows.All
import Wide.All
import OpenK.AllK
import Wide.FinOn
import HandS.ForMost
import HandS.ForExc
import HandS.Wide
import HandS.Gcd
import HandS.IsInst
import HandS.Flow
import HandS.TupAny
import HandS.TupMul
import HandS.Deep
import HandS.Text
import PyProof.ReprRoads
import PyProof.P3In
import KE.KExcSuper
import HandS.Exc
import HandS.ExcInit
import HandS.ExcSuper
import HandS.Ends
import HandS.Comp
import HandS.Defaults
import HandS.HeadEnd
import HandS.HeadHook2
import KE.KStateDown
import HandS.Head0
import HandS.Head1
import HandS.Head2
import PySem.Challenge.RW_everyslope_k03_tokens_by_hand
import PyProof.StrLawsRepr
import HandS.Head3
set_option Elab.async false
set_option linter.all false
set_option maxRecDepth 100000
set_option autoImplicit false
/-! Part 0: the core syntax, its values and cells, its evaluator. -/
namespace RV
open PySem

/-- plain data; ref n: the cell n; fn n: the text's def n; rol: a list that is read alone -/
inductive D where
  | non | bl (b : Bool) | int (i : Int) | str (x : Str) | tup (ds : List D) | ref (n : Nat) | fn (n : Nat) | rol (ds : List D)
mutual
def D.eqb : D → D → Bool
  | .non, .non => true
  | .bl a, .bl b => decide (a = b)
  | .int a, .int b => decide (a = b)
  | .str a, .str b => decide (a = b)
  | .tup a, .tup b => D.eqbs a b
  | .ref a, .ref b => decide (a = b)
  | .fn a, .fn b => decide (a = b)
  | .rol a, .rol b => D.eqbs a b
  | _, _ => false
def D.eqbs : List D → List D → Bool
  | [], [] => true
  | a :: r, b :: s => D.eqb a b && D.eqbs r s
  | _, _ => false
end
mutual
theorem D.eqb_iff : ∀ a b : D, D.eqb a b = true ↔ a = b
  | .non, b => by cases b <;> simp [D.eqb]
  | .bl _, b => by cases b <;> simp [D.eqb]
  | .int _, b => by cases b <;> simp [D.eqb]
  | .str _, b => by cases b <;> simp [D.eqb]
  | .tup a, b => by
    cases b with
    | tup b => simp only [D.eqb, D.eqbs_iff a b, D.tup.injEq]
    | _ => simp [D.eqb]
  | .ref _, b => by cases b <;> simp [D.eqb]
  | .fn _, b => by cases b <;> simp [D.eqb]
  | .rol a, b => by
    cases b with
    | rol b => simp only [D.eqb, D.eqbs_iff a b, D.rol.injEq]
    | _ => simp [D.eqb]
theorem D.eqbs_iff : ∀ a b : List D, D.eqbs a b = true ↔ a = b
  | [], b => by cases b <;> simp [D.eqbs]
  | x :: r, b => by
    cases b with
    | nil => simp [D.eqbs]
    | cons y s => simp only [D.eqbs, Bool.and_eq_true, D.eqb_iff x y, D.eqbs_iff r s, List.cons.injEq]
end
instance : DecidableEq D := fun a b => decidable_of_iff _ (D.eqb_iff a b)
/-- what may be changed: a list -/
inductive Cell where
  | lst (ds : List D)
deriving DecidableEq
abbrev AH := List Cell
abbrev En := List (Option D)
/-- an evaluation's end -/
inductive R (α : Type) where
  | ok (a : α) (h : AH) | exc (c : Nat) (v : D) (h : AH) | bad
def R.bind {α β : Type} (r : R α) (f : α → AH → R β) : R β := match r with
  | .ok a h => f a h
  | .exc c v h => .exc c v h
  | .bad => .bad
@[simp] theorem R.bind_ok {α β : Type} (a : α) (h : AH) (f : α → AH → R β) : (R.ok a h).bind f = f a h := rfl
@[simp] theorem R.bind_exc {α β : Type} (c : Nat) (v : D) (h : AH) (f : α → AH → R β) : (R.exc c v h : R α).bind f = .exc c v h := rfl
@[simp] theorem R.bind_bad {α β : Type} (f : α → AH → R β) : (R.bad : R α).bind f = .bad := rfl
/-- where no error may leave -/
def R.calm {α : Type} (r : R α) : R α := match r with
  | .ok a h => .ok a h
  | _ => .bad
@[simp] theorem R.calm_ok {α : Type} (a : α) (h : AH) : (R.ok a h).calm = .ok a h := rfl
@[simp] theorem R.calm_bad {α : Type} : (R.bad : R α).calm = .bad := rfl
@[simp] theorem R.calm_exc {α : Type} (c : Nat) (v : D) (h : AH) : (R.exc c v h : R α).calm = .bad := rfl
theorem R.bind_assoc {α β γ : Type} (r : R α) (f : α → AH → R β) (g : β → AH → R γ) : (r.bind f).bind g = r.bind fun a h => (f a h).bind g := by cases r <;> rfl

/-- the types that isinstance asks -/
inductive Ty where
  | int | bool | str | tup | lst
deriving DecidableEq
/-- built-in functions of values -/
inductive Blt where
  | len | abs | int | str | gcd | repr | tup | list | ord | min2 | max2 | comb
deriving DecidableEq
/-- built-in functions of a list that has just been made -/
inductive BltT where
  | tup | all | any | sum | max | min | len
deriving DecidableEq
/-- methods of built-in values -/
inductive Mth where
  | append | extend | pop
deriving DecidableEq

mutual
inductive CE where
  | var (i : Nat)
  | lit (d : D)
  | glob (j : Nat) (d : D)
  | fnv (j : Nat)
  | tup (es : CEs)
  | op2 (o : Operator) (a b : CE)
  | neg (a : CE)
  | inv (a : CE)
  | cmp (o : CmpOp) (a b : CE)
  | cmp2 (o o' : CmpOp) (a b c : CE)
  | and (a b : CE)
  | or (a b : CE)
  | not (a : CE)
  | ite (t a b : CE)
  | call (f : Nat) (es : CEs)
  | callv (e : CE) (es : CEs)
  | isi (a : CE) (t : Ty)
  | blt (b : Blt) (es : CEs)
  | bltT (b : BltT) (t : CT)
  | join (s : CE) (t : CT)
  | sub (a i : CE)
  | slice (a : CE) (lo hi : CO)
  | alloc (t : CT)
  | meth (m : Mth) (o : CE) (es : CEs)
inductive CEs where
  | nil | cons (e : CE) (es : CEs)
inductive CO where
  | none | some (e : CE)
/-- a list that is made -/
inductive CT where
  | lst (es : CEs)
  | lc (own : List Nat) (tg : Tg) (it : CI) (ifs : CO) (e : CE)
/-- what is walked -/
inductive CI where
  | val (e : CE) | rng1 (a : CE) | rng2 (a b : CE) | tmp (t : CT)
inductive Tg where
  | name (i : Nat) | tup (ts : Tgs) | sub (o i : CE)
inductive Tgs where
  | nil | cons (t : Tg) (ts : Tgs)
end
/-- what an except clause returns: the error's field, or a tuple of a constant and it -/
inductive SE where
  | fld | tag (d : D)
mutual
inductive CS where
  | asg (t : Tg) (e : CE)
  | aug (i : Nat) (o : Operator) (e : CE)
  | expr (e : CE)
  | ret (e : CE)
  | retN
  | ifs (t : CE) (a b : CSs)
  | whil (t : CE) (b : CSs)
  | forr (t : Tg) (it : CI) (b : CSs)
  | pass
  | brk
  | cnt
  | never
  | raise (c : Nat) (e : CE)
  | tryR (b : CSs) (c i m : Nat) (r : SE)
inductive CSs where
  | nil | cons (s : CS) (ss : CSs)
end

/-! ### primitive operations -/
def SZ : Nat := 16777216
def BIG : Nat := 2 ^ 400000
def DBIG : Nat := 2 ^ 8900
def SBIG : Nat := 2 ^ 1900
def FUEL : Nat := 2 ^ 4000

def mapO {α β : Type} (f : α → Option β) : List α → Option (List β)
  | [] => some []
  | x :: xs => match f x with
    | none => none
    | some y => match mapO f xs with
      | none => none
      | some ys => some (y :: ys)
def asInt : D → Option Int
  | .int i => some i
  | _ => none
def asBl : D → Option Bool
  | .bl b => some b
  | _ => none
def asStr : D → Option Str
  | .str x => some x
  | _ => none
/-- data as the library has it, to a depth -/
def toP : Nat → AH → D → Option PyData
  | 0, _, _ => none
  | _ + 1, _, .non => some .none
  | _ + 1, _, .bl b => some (.bool b)
  | _ + 1, _, .int i => some (.int i)
  | _ + 1, _, .str x => if PyData.strOk x then some (.str x) else none
  | n + 1, h, .tup ds => match mapO (toP n h) ds with
    | none => none
    | some ps => some (.tuple ps)
  | n + 1, h, .ref k => match h[k]? with
    | some (.lst ds) => (match mapO (toP n h) ds with
      | none => none
      | some ps => some (.list ps))
    | _ => none
  | n + 1, h, .rol ds => match mapO (toP n h) ds with
    | none => none
    | some ps => some (.list ps)
  | _ + 1, _, .fn _ => none
def DEEP : Nat := 60
/-- == -/
def deq (x y : D) (h : AH) : Option Bool := match x, y with
  | .int i, .int j => some (decide (i = j))
  | .str a, .str b => some (decide (a = b))
  | .bl a, .bl b => some (decide (a = b))
  | .non, .non => some true
  | x, y => match toP DEEP h x, toP DEEP h y with
    | some p, some q => some (PyData.eqv p q)
    | _, _ => none
def seqOf (x : D) (h : AH) : Option (List D) := match x with
  | .tup ds => some ds
  | .rol ds => some ds
  | .ref n => match h[n]? with
    | some (.lst ds) => some ds
    | _ => none
  | _ => none
/-- x in y -/
def inP (x y : D) (h : AH) : Option Bool := match x, y with
  | .str a, .str z => if a.cps.size = 1 then some (decide (a.cps.getD 0 0 ∈ z.cps.toList)) else none
  | x, y => match toP DEEP h x, toP DEEP h y with
    | some p, some (.list ps) => some (ps.any fun z => PyData.eqv z p)
    | some p, some (.tuple ps) => some (ps.any fun z => PyData.eqv z p)
    | _, _ => none
def cmpP (o : CmpOp) (x y : D) (h : AH) : Option Bool := match o with
  | .Lt => (match x, y with
    | .int i, .int j => some (decide (i < j))
    | _, _ => none)
  | .LtE => (match x, y with
    | .int i, .int j => some (decide (i ≤ j))
    | _, _ => none)
  | .Gt => (match x, y with
    | .int i, .int j => some (decide (j < i))
    | _, _ => none)
  | .GtE => (match x, y with
    | .int i, .int j => some (decide (j ≤ i))
    | _, _ => none)
  | .Eq => deq x y h
  | .NotEq => (match deq x y h with
    | some b => some (!b)
    | none => none)
  | .Is => (match y with
    | .non => some (decide (x = .non))
    | _ => none)
  | .IsNot => (match y with
    | .non => some (!decide (x = .non))
    | _ => none)
  | .In => inP x y h
  | .NotIn => (match inP x y h with
    | some b => some (!b)
    | none => none)
def new (c : Cell) (h : AH) : R D := .ok (.ref h.length) (h ++ [c])
def prim2 (o : Operator) (x y : D) (h : AH) : R D := match o, x, y with
  | .Add, .int i, .int j => .ok (.int (i + j)) h
  | .Add, .str a, .str b => if a.length + b.length ≤ SZ then .ok (.str (a ++ b)) h else .bad
  | .Add, .tup a, .tup b => if a.length + b.length ≤ SZ then .ok (.tup (a ++ b)) h else .bad
  | .Add, .ref n, .ref m => (match h[n]?, h[m]? with
    | some (.lst a), some (.lst b) => if a.length + b.length ≤ SZ then new (.lst (a ++ b)) h else .bad
    | _, _ => .bad)
  | .Sub, .int i, .int j => .ok (.int (i - j)) h
  | .Mult, .int i, .int j => if i.natAbs < BIG ∧ j.natAbs < BIG then .ok (.int (i * j)) h else .bad
  | .Mult, .ref n, .int k => (match h[n]? with
    | some (.lst a) => if -9223372036854775808 ≤ k ∧ k < 9223372036854775808 ∧ a.length * k.toNat ≤ SZ then new (.lst (List.replicate k.toNat a).flatten) h else .bad
    | _ => .bad)
  | .Mult, .tup a, .int k => if 2 ≤ k ∧ k ≤ 1000 ∧ a.length ≤ 1000 ∧ a ≠ [] then .ok (.tup (List.replicate k.toNat a).flatten) h else .bad
  | .FloorDiv, .int i, .int j => if 0 < j ∧ j.natAbs < DBIG then .ok (.int (i / j)) h else .bad
  | .Mod, .int i, .int j => if 0 < j then .ok (.int (i % j)) h else .bad
  | .Pow, .int i, .int j => if 0 ≤ j ∧ j ≤ 1000000 ∧ i.natAbs < 2 ^ 64 then .ok (.int (i ^ j.toNat)) h else .bad
  | _, _, _ => .bad
def iopP (o : Operator) (x y : D) : Bool := match o, x, y with
  | .Add, .int _, .int _ => true
  | .Add, .str _, .str _ => true
  | .Sub, .int _, .int _ => true
  | .Mult, .int _, .int _ => true
  | _, _, _ => false
def truthy (x : D) (h : AH) : Option Bool := match x with
  | .non => some false
  | .bl b => some b
  | .int i => some (i != 0)
  | .str a => if a.length ≤ SZ then some ((a.length : Int) != 0) else none
  | .tup ds => some (!ds.isEmpty)
  | .rol ds => some (!ds.isEmpty)
  | .ref n => (match h[n]? with
    | some (.lst ds) => some (!ds.isEmpty)
    | _ => none)
  | .fn _ => none
def isTy (x : D) (t : Ty) (h : AH) : Option Bool := match x with
  | .non => some false
  | .bl _ => some (t == .bool || t == .int)
  | .int _ => some (t == .int)
  | .str _ => some (t == .str)
  | .tup _ => some (t == .tup)
  | .rol _ => some (t == .lst)
  | .ref n => (match h[n]? with
    | some (.lst _) => some (t == .lst)
    | _ => none)
  | .fn _ => none
def ofO {α : Type} (o : Option α) (h : AH) : R α := match o with
  | some a => .ok a h
  | none => .bad
def repO (x : D) (h : AH) : Option Str := match toP DEEP h x with
  | some p => if p.showable && decide (p.shown.length + 64 ≤ SZ) then some p.shown else none
  | none => none
def blt (b : Blt) (xs : List D) (h : AH) : R D := match b, xs with
  | .len, [.str x] => if x.length ≤ SZ then .ok (.int x.length) h else .bad
  | .len, [x] => (match seqOf x h with
    | some ds => .ok (.int ds.length) h
    | none => .bad)
  | .abs, [.int i] => .ok (.int (if i < 0 then -i else i)) h
  | .int, [.int i] => .ok (.int i) h
  | .int, [.str x] => (match PySem.intText? x with
    | some n => if x.length ≤ 640 then .ok (.int n) h else .bad
    | none => .bad)
  | .str, [.int i] => if i.natAbs < SBIG then .ok (.str (toString i)) h else .bad
  | .gcd, [.int i, .int j] => .ok (.int ((Nat.gcd i.natAbs j.natAbs : Nat) : Int)) h
  | .repr, [x] => (match repO x h with
    | some s => .ok (.str s) h
    | none => .bad)
  | .tup, [x] => (match seqOf x h with
    | some ds => .ok (.tup ds) h
    | none => .bad)
  | .list, [x] => (match seqOf x h with
    | some ds => new (.lst ds) h
    | none => .bad)
  | _, _ => .bad
def maxI : List Int → Int
  | [] => 0
  | [a] => a
  | a :: b :: r => if maxI (b :: r) > a then maxI (b :: r) else a
def minI : List Int → Int
  | [] => 0
  | [a] => a
  | a :: b :: r => if minI (b :: r) < a then minI (b :: r) else a
def bltT (b : BltT) (xs : List D) (h : AH) : R D := match b with
  | .tup => .ok (.tup xs) h
  | .len => .ok (.int xs.length) h
  | .all => (match mapO asBl xs with
    | some bs => .ok (.bl (bs.all id)) h
    | none => .bad)
  | .any => (match mapO asBl xs with
    | some bs => .ok (.bl (bs.any id)) h
    | none => .bad)
  | .sum => (match mapO asInt xs with
    | some ns => .ok (.int ns.sum) h
    | none => .bad)
  | .max => (match mapO asInt xs with
    | some ns => if ns = [] then .bad else .ok (.int (maxI ns)) h
    | none => .bad)
  | .min => (match mapO asInt xs with
    | some ns => if ns = [] then .bad else .ok (.int (minI ns)) h
    | none => .bad)
/-- a sequence's place as Python counts it -/
def ixAt {α : Type} (xs : List α) (i : Int) : Option α := L2.atI xs i
def subP (x i : D) (h : AH) : R D := match x, i with
  | .str z, .int k => if z.length ≤ SZ then (match L2.atI z.cps.toList k with
    | some c => .ok (.str ⟨#[c]⟩) h
    | none => .bad) else .bad
  | x, .int k => (match seqOf x h with
    | some ds => (match L2.atI ds k with
      | some d => .ok d h
      | none => .bad)
    | none => .bad)
  | _, _ => .bad
def cutL {α : Type} (xs : List α) (lo hi : Option Int) : List α := (xs.drop (HT.sIx xs.length 0 lo)).take (HT.sIx xs.length xs.length hi - HT.sIx xs.length 0 lo)
def sliceP (x : D) (lo hi : Option Int) (h : AH) : R D := match x with
  | .str z => if z.length ≤ SZ then .ok (.str ⟨(cutL z.cps.toList lo hi).toArray⟩) h else .bad
  | .tup ds => .ok (.tup (cutL ds lo hi)) h
  | .rol ds => new (.lst (cutL ds lo hi)) h
  | .ref n => (match h[n]? with
    | some (.lst ds) => new (.lst (cutL ds lo hi)) h
    | _ => .bad)
  | _ => .bad
def setP (o i v : D) (h : AH) : R Unit := match o, i with
  | .ref n, .int k => (match h[n]? with
    | some (.lst ds) => (match L2.ixN ds.length k with
      | some j => .ok () (h.set n (.lst (ds.set j v)))
      | none => .bad)
    | _ => .bad)
  | _, _ => .bad
def methP (m : Mth) (o : D) (xs : List D) (h : AH) : R D := match m, o, xs with
  | .append, .ref n, [x] => (match h[n]? with
    | some (.lst ds) => if ds.length < SZ then .ok .non (h.set n (.lst (ds ++ [x]))) else .bad
    | _ => .bad)
  | _, _, _ => .bad
/-- the value is of the method's type -/
def methOk (m : Mth) (o : D) (h : AH) : Bool := match m, o with
  | .append, .ref n => (match h[n]? with
    | some (.lst _) => true
    | _ => false)
  | .extend, .ref n => (match h[n]? with
    | some (.lst _) => true
    | _ => false)
  | .pop, .ref n => (match h[n]? with
    | some (.lst _) => true
    | _ => false)
  | _, _ => false
def depsOk (deps : List (Nat × Cell)) (h : AH) : Bool := deps.all fun p => decide (h[p.1]? = some p.2)
def chars (z : Str) : List D := z.cps.toList.map fun c => .str ⟨#[c]⟩
/-- a value that is walked -/
def walkP (x : D) (h : AH) : R (List D × List (Nat × Cell)) := match x with
  | .tup ds => .ok (ds, []) h
  | .rol ds => .ok (ds, []) h
  | .ref n => (match h[n]? with
    | some (.lst ds) => .ok (ds, [(n, .lst ds)]) h
    | _ => .bad)
  | _ => .bad
def rngL (lo : Int) (n : Nat) : List D := (List.range n).map fun (i : Nat) => D.int (lo + (i : Int))
def RB : Int := 4611686018427387904
def rng1P (x : D) (h : AH) : R (List D × List (Nat × Cell)) := match x with
  | .int j => if -RB ≤ j ∧ j < RB then .ok (rngL 0 j.toNat, []) h else .bad
  | _ => .bad
def rng2P (x y : D) (h : AH) : R (List D × List (Nat × Cell)) := match x, y with
  | .int i, .int j => if -RB ≤ i ∧ i < RB ∧ -RB ≤ j ∧ j < RB then .ok (rngL i (j - i).toNat, []) h else .bad
  | _, _ => .bad
/-! ### the evaluator -/
abbrev Call := Nat → List D → AH → R D
def var (env : En) (i : Nat) (h : AH) : R D := match env[i]? with
  | some (some d) => .ok d h
  | _ => .bad
/-- a block's own names are not yet set -/
def wipeE (env : En) : List Nat → En
  | [] => env
  | v :: vs => (wipeE env vs).set v none
/-- a comprehension's turns -/
def evComp (tg : D → AH → R En) (test : En → AH → R Bool) (elt : En → AH → R D) (deps : List (Nat × Cell)) : List D → List D → AH → R (List D)
  | [], acc, h => if depsOk deps h then .ok acc h else .bad
  | x :: xs, acc, h => if depsOk deps h then (tg x h).calm.bind fun env h1 => (test env h1).calm.bind fun b h2 =>
      if b then (elt env h2).calm.bind fun y h3 => if acc.length < SZ then evComp tg test elt deps xs (acc ++ [y]) h3 else .bad else evComp tg test elt deps xs acc h2
    else .bad
def Tgs.len : Tgs → Nat
  | .nil => 0
  | .cons _ ts => ts.len + 1
mutual
def evE (call : Call) : CE → En → AH → R D
  | .var i, env, h => var env i h
  | .lit d, _, h => .ok d h
  | .glob _ d, _, h => .ok d h
  | .fnv j, _, h => .ok (.fn j) h
  | .tup es, env, h => (evEs call es env h).bind fun ds h1 => if ds.length ≤ SZ then .ok (.tup ds) h1 else .bad
  | .op2 o a b, env, h => (evE call a env h).bind fun x h1 => (evE call b env h1).bind fun y h2 => prim2 o x y h2
  | .neg a, env, h => (evE call a env h).bind fun x h1 => (match x with
    | .int i => .ok (.int (-i)) h1
    | _ => .bad)
  | .inv a, env, h => (evE call a env h).bind fun x h1 => (match x with
    | .int i => .ok (.int (Builtin.bitNot i)) h1
    | _ => .bad)
  | .cmp o a b, env, h => (evE call a env h).bind fun x h1 => (evE call b env h1).bind fun y h2 => (ofO (cmpP o x y h2) h2).bind fun k h3 => .ok (.bl k) h3
  | .cmp2 o o' a b c, env, h => (evE call a env h).bind fun x h1 => (evE call b env h1).bind fun y h2 => (ofO (cmpP o x y h2) h2).bind fun k h3 =>
      if k then (evE call c env h3).bind fun z h4 => (ofO (cmpP o' y z h4) h4).bind fun k' h5 => .ok (.bl k') h5 else .ok (.bl false) h3
  | .and a b, env, h => (evE call a env h).bind fun x h1 => (ofO (truthy x h1) h1).bind fun k h2 => if k then evE call b env h2 else .ok x h2
  | .or a b, env, h => (evE call a env h).bind fun x h1 => (ofO (truthy x h1) h1).bind fun k h2 => if k then .ok x h2 else evE call b env h2
  | .not a, env, h => (evE call a env h).bind fun x h1 => (ofO (truthy x h1) h1).bind fun k h2 => .ok (.bl (!k)) h2
  | .ite t a b, env, h => (evE call t env h).bind fun x h1 => (ofO (truthy x h1) h1).bind fun k h2 => if k then evE call a env h2 else evE call b env h2
  | .call f es, env, h => (evEs call es env h).bind fun ds h1 => call f ds h1
  | .callv e es, env, h => (evE call e env h).bind fun x h1 => (evEs call es env h1).bind fun ds h2 => (match x with
    | .fn f => call f ds h2
    | _ => .bad)
  | .isi a t, env, h => (evE call a env h).bind fun x h1 => (ofO (isTy x t h1) h1).bind fun k h2 => .ok (.bl k) h2
  | .blt b es, env, h => (evEs call es env h).bind fun ds h1 => RV.blt b ds h1
  | .bltT b t, env, h => (evT call t env h).bind fun ds h1 => RV.bltT b ds h1
  | .join s t, env, h => (evE call s env h).bind fun x h1 => (match x with
    | .str sep => (evT call t env h1).bind fun ds h2 => (match mapO asStr ds with
      | some ys => if (ys.map (·.length)).sum + ys.length * sep.length ≤ SZ then .ok (.str (Txt.join sep ys)) h2 else .bad
      | none => .bad)
    | _ => .bad)
  | .sub a i, env, h => (evE call a env h).bind fun x h1 => (evE call i env h1).bind fun y h2 => subP x y h2
  | .slice a lo hi, env, h => (evE call a env h).bind fun x h1 => (evO call lo env h1).bind fun l h2 => (evO call hi env h2).bind fun u h3 => sliceP x l u h3
  | .alloc t, env, h => (evT call t env h).bind fun ds h1 => new (.lst ds) h1
  | .meth m o es, env, h => (evE call o env h).bind fun x h1 => if methOk m x h1 then (evEs call es env h1).bind fun ds h2 => methP m x ds h2 else .bad
def evEs (call : Call) : CEs → En → AH → R (List D)
  | .nil, _, h => .ok [] h
  | .cons e es, env, h => (evE call e env h).bind fun x h1 => (evEs call es env h1).bind fun xs h2 => .ok (x :: xs) h2
def evO (call : Call) : CO → En → AH → R (Option Int)
  | .none, _, h => .ok none h
  | .some e, env, h => (evE call e env h).bind fun x h1 => (match x with
    | .int i => .ok (some i) h1
    | _ => .bad)
def evT (call : Call) : CT → En → AH → R (List D)
  | .lst es, env, h => (evEs call es env h).bind fun ds h1 => if ds.length ≤ SZ then .ok ds h1 else .bad
  | .lc own tg it ifs e, env, h => (evI call it env h).bind fun src h1 => evComp (fun x h => evG call tg x (wipeE env own) h) (evF call ifs) (evE call e) src.2 src.1 [] h1
def evF (call : Call) : CO → En → AH → R Bool
  | .none, _, h => .ok true h
  | .some e, env, h => (evE call e env h).bind fun x h1 => ofO (truthy x h1) h1
def evI (call : Call) : CI → En → AH → R (List D × List (Nat × Cell))
  | .val e, env, h => (evE call e env h).bind fun x h1 => walkP x h1
  | .rng1 a, env, h => (evE call a env h).bind fun x h1 => rng1P x h1
  | .rng2 a b, env, h => (evE call a env h).bind fun x h1 => (evE call b env h1).bind fun y h2 => rng2P x y h2
  | .tmp t, env, h => (evT call t env h).bind fun ds h1 => .ok (ds, []) h1
def evG (call : Call) : Tg → D → En → AH → R En
  | .name i, x, env, h => .ok (env.set i (some x)) h
  | .tup ts, x, env, h => (match x with
    | .tup ds => if ds.length = ts.len then evGs call ts ds env h else .bad
    | _ => .bad)
  | .sub o i, x, env, h => (evE call o env h).bind fun a h1 => (evE call i env h1).bind fun b h2 => (setP a b x h2).bind fun _ h3 => .ok env h3
def evGs (call : Call) : Tgs → List D → En → AH → R En
  | .nil, ds, env, h => (match ds with
    | [] => .ok env h
    | _ => .bad)
  | .cons t ts, ds, env, h => (match ds with
    | x :: xs => (evG call t x env h).bind fun env1 h1 => evGs call ts xs env1 h1
    | _ => .bad)
end
def SE.val (v : D) : SE → D
  | .fld => v
  | .tag d => .tup [d, v]
/-- a statement's end -/
inductive Fl where
  | nx (env : En) | rt (d : D) | bk (env : En) | ct (env : En)
def evLoop (tg : D → En → AH → R En) (body : En → AH → R Fl) (deps : List (Nat × Cell)) : List D → En → AH → R Fl
  | [], env, h => if depsOk deps h then .ok (.nx env) h else .bad
  | x :: xs, env, h => if depsOk deps h then (tg x env h).bind fun env1 h1 => (body env1 h1).bind fun f h2 => (match f with
      | .nx e => evLoop tg body deps xs e h2
      | .ct e => evLoop tg body deps xs e h2
      | .bk e => .ok (.nx e) h2
      | .rt d => .ok (.rt d) h2) else .bad
def evWhile (test : En → AH → R Bool) (body : En → AH → R Fl) : Nat → En → AH → R Fl
  | 0, _, _ => .bad
  | n + 1, env, h => (test env h).bind fun b h1 => if b then (body env h1).bind fun f h2 => (match f with
      | .nx e => evWhile test body n e h2
      | .ct e => evWhile test body n e h2
      | .bk e => .ok (.nx e) h2
      | .rt d => .ok (.rt d) h2) else .ok (.nx env) h1
def evB (call : Call) (t : CE) (env : En) (h : AH) : R Bool := (evE call t env h).bind fun x h1 => ofO (truthy x h1) h1
/-- try: r; except c: a value of the error's field -/
def catch_ (r : R Fl) (c m : Nat) (se : SE) : R Fl := match r with
  | .exc c' v h' => if c' = c then .ok (.rt (se.val v)) h' else if c' < m then .exc c' v h' else .bad
  | r => r
mutual
def evS (call : Call) : CS → En → AH → R Fl
  | .asg t e, env, h => (evE call e env h).bind fun x h1 => (evG call t x env h1).bind fun env1 h2 => .ok (.nx env1) h2
  | .aug i o e, env, h => (var env i h).bind fun x h1 => (evE call e env h1).bind fun y h2 => if iopP o x y then (prim2 o x y h2).bind fun z h3 => .ok (.nx (env.set i (some z))) h3 else .bad
  | .expr e, env, h => (evE call e env h).bind fun _ h1 => .ok (.nx env) h1
  | .ret e, env, h => (evE call e env h).bind fun x h1 => .ok (.rt x) h1
  | .retN, _, h => .ok (.rt .non) h
  | .ifs t a b, env, h => (evB call t env h).bind fun k h1 => if k then evSs call a env h1 else evSs call b env h1
  | .whil t b, env, h => evWhile (evB call t) (evSs call b) FUEL env h
  | .forr t it b, env, h => (evI call it env h).bind fun src h1 => evLoop (evG call t) (evSs call b) src.2 src.1 env h1
  | .pass, env, h => .ok (.nx env) h
  | .brk, env, h => .ok (.bk env) h
  | .cnt, env, h => .ok (.ct env) h
  | .never, _, _ => .bad
  | .raise c e, env, h => (evE call e env h).bind fun x h1 => .exc c x h1
  | .tryR b c _ m r, env, h => catch_ (evSs call b env h) c m r
def evSs (call : Call) : CSs → En → AH → R Fl
  | .nil, env, h => .ok (.nx env) h
  | .cons s ss, env, h => (evS call s env h).bind fun f h1 => (match f with
    | .nx e => evSs call ss e h1
    | f => .ok f h1)
end
/-- a def: its parameters' number, its names' number, its body -/
structure Fn where
  np : Nat
  nn : Nat
  body : CSs
mutual
def D.under (n : Nat) : D → Bool
  | .tup ds => D.unders n ds
  | .rol ds => D.unders n ds
  | .ref k => decide (k < n)
  | _ => true
def D.unders (n : Nat) : List D → Bool
  | [] => true
  | d :: ds => D.under n d && D.unders n ds
end
/-- what a call leaves: new cells that nothing names are dropped -/
def sweep (h : AH) (d : D) (h' : AH) : R D := if h'.take h.length = h ∧ D.under h.length d = true then .ok d h else .ok d h'
def evC (P : List Fn) : Nat → Call
  | 0, _, _, _ => .bad
  | k + 1, f, ds, h => match P[f]? with
    | none => .bad
    | some fn => if ds.length = fn.np then (evSs (evC P k) fn.body (ds.map some ++ List.replicate (fn.nn - fn.np) none) h).bind fun fl h' => (match fl with
      | .rt d => sweep h d h'
      | .nx _ => sweep h .non h'
      | _ => .bad) else .bad
end RV
set_option Elab.async false
set_option linter.all false
set_option maxRecDepth 100000
set_option autoImplicit false
/-! Part 1: how the plain data lie in the layer's heap. -/
namespace RV
open PySem PySem.Spec PyProof.Rows L2

/-- what stands around a law: the text's program, the written part, where defs and error classes stand -/
structure Wd where
  P : Program
  w : World
  K : PySem.W.Frag
  mg : Str → Option Value
  base : Heap
  fa : Nat → Addr
  ca : Nat → Addr
  fld : Nat → Str

/-- a list that no one writes -/
def FzL (K : PySem.W.Frag) (H : Hp) (a : Addr) (xs : List V) : Prop := (∃ o, H a = some (.frz o (.lst xs))) ∨ ∀ H' : Hp, SqL K H' a xs ∧ ∃ o, K.lookup a = some o ∧ o.cls = .type "list"
mutual
def DV (G : Wd) (ι : List Addr) (H : Hp) : D → V → Prop
  | .non, v => v = .non
  | .bl b, v => v = .bl b
  | .int i, v => v = .int i
  | .str x, v => v = .str x
  | .tup ds, v => ∃ a vs, v = .ref a ∧ SqT G.K H a vs ∧ DVs G ι H ds vs
  | .ref n, v => ∃ a, ι[n]? = some a ∧ v = .ref a
  | .fn j, v => v = .ref (G.fa j)
  | .rol ds, v => ∃ a vs, v = .ref a ∧ FzL G.K H a vs ∧ DVs G ι H ds vs
def DVs (G : Wd) (ι : List Addr) (H : Hp) : List D → List V → Prop
  | [], vs => vs = []
  | d :: ds, vs => ∃ v r, vs = v :: r ∧ DV G ι H d v ∧ DVs G ι H ds r
end
def Fix : HO → Prop
  | .tup _ => True
  | .frz _ _ => True
  | _ => False
/-- from the heap H (cells at ι) on to H' (cells at ι') -/
structure Ext (ι : List Addr) (H : Hp) (ι' : List Addr) (H' : Hp) : Prop where
  pre : ι <+: ι'
  new : ∀ a ∈ ι', a ∈ ι ∨ H a = none
  keep : ∀ b o, H b = some o → b ∉ ι → H' b = some o
  fix : ∀ b o, H b = some o → Fix o → H' b = some o
theorem Ext.refl {ι : List Addr} {H : Hp} : Ext ι H ι H := ⟨List.prefix_refl _, fun _ h => .inl h, fun _ _ h _ => h, fun _ _ h _ => h⟩
theorem Ext.trans {ι ι1 ι2 : List Addr} {H H1 H2 : Hp} (a : Ext ι H ι1 H1) (b : Ext ι1 H1 ι2 H2) : Ext ι H ι2 H2 where
  pre := a.pre.trans b.pre
  new := fun x hx => by
    rcases b.new x hx with h | h
    · exact a.new x h
    · by_cases hi : x ∈ ι
      · exact .inl hi
      · refine .inr ?_
        cases q : H x with
        | none => rfl
        | some o =>
          have := a.keep x o q hi
          rw [h] at this
          cases this
  keep := fun x o hx hn => by
    refine b.keep x o (a.keep x o hx hn) fun hi => ?_
    rcases a.new x hi with h | h
    · exact hn h
    · rw [hx] at h
      cases h
  fix := fun x o hx hf => b.fix x o (a.fix x o hx hf) hf
theorem SqT.ext {K : PySem.W.Frag} {ι ι' : List Addr} {H H' : Hp} {a : Addr} {xs : List V} (h : SqT K H a xs) (e : Ext ι H ι' H') : SqT K H' a xs := by
  rcases h with (h | ⟨o, h⟩) | h
  · exact .inl (.inl (e.fix _ _ h trivial))
  · exact .inl (.inr ⟨o, e.fix _ _ h trivial⟩)
  · exact .inr h
theorem FzL.ext {K : PySem.W.Frag} {ι ι' : List Addr} {H H' : Hp} {a : Addr} {xs : List V} (h : FzL K H a xs) (e : Ext ι H ι' H') : FzL K H' a xs := by
  rcases h with ⟨o, h⟩ | h
  · exact .inl ⟨o, e.fix _ _ h trivial⟩
  · exact .inr h
theorem FzL.sq {K : PySem.W.Frag} {H : Hp} {a : Addr} {xs : List V} (h : FzL K H a xs) : SqL K H a xs := by
  rcases h with ⟨o, h⟩ | h
  · exact .inl (.inr ⟨o, h⟩)
  · exact (h H).1
theorem pre_get {α : Type} {l l' : List α} {n : Nat} {a : α} (p : l <+: l') (h : l[n]? = some a) : l'[n]? = some a := by
  obtain ⟨t, rfl⟩ := p
  rw [List.getElem?_append_left (List.getElem?_eq_some_iff.mp h).1]
  exact h
theorem SqT.fx {K : PySem.W.Frag} {H H' : Hp} {a : Addr} {xs : List V} (h : SqT K H a xs) (e : ∀ b o, H b = some o → Fix o → H' b = some o) : SqT K H' a xs := by
  rcases h with (h | ⟨o, h⟩) | h
  · exact .inl (.inl (e _ _ h trivial))
  · exact .inl (.inr ⟨o, e _ _ h trivial⟩)
  · exact .inr h
theorem FzL.fx {K : PySem.W.Frag} {H H' : Hp} {a : Addr} {xs : List V} (h : FzL K H a xs) (e : ∀ b o, H b = some o → Fix o → H' b = some o) : FzL K H' a xs := by
  rcases h with ⟨o, h⟩ | h
  · exact .inl ⟨o, e _ _ h trivial⟩
  · exact .inr h
mutual
theorem DV.mono {G : Wd} {ι ι' : List Addr} {H H' : Hp} (p : ι <+: ι') (e : ∀ b o, H b = some o → Fix o → H' b = some o) : ∀ (d : D) (v : V), DV G ι H d v → DV G ι' H' d v
  | .non, _, h => h
  | .bl _, _, h => h
  | .int _, _, h => h
  | .str _, _, h => h
  | .tup ds, _, ⟨a, vs, h1, h2, h3⟩ => ⟨a, vs, h1, SqT.fx h2 e, DVs.mono p e ds vs h3⟩
  | .ref n, _, ⟨a, h1, h2⟩ => ⟨a, pre_get p h1, h2⟩
  | .fn _, _, h => h
  | .rol ds, _, ⟨a, vs, h1, h2, h3⟩ => ⟨a, vs, h1, FzL.fx h2 e, DVs.mono p e ds vs h3⟩
theorem DVs.mono {G : Wd} {ι ι' : List Addr} {H H' : Hp} (p : ι <+: ι') (e : ∀ b o, H b = some o → Fix o → H' b = some o) : ∀ (ds : List D) (vs : List V), DVs G ι H ds vs → DVs G ι' H' ds vs
  | [], _, h => h
  | d :: ds, _, ⟨v, r, h1, h2, h3⟩ => ⟨v, r, h1, DV.mono p e d v h2, DVs.mono p e ds r h3⟩
end
theorem DV.ext {G : Wd} {ι ι' : List Addr} {H H' : Hp} (e : Ext ι H ι' H') (d : D) (v : V) (h : DV G ι H d v) : DV G ι' H' d v := DV.mono e.pre e.fix d v h
theorem DVs.ext {G : Wd} {ι ι' : List Addr} {H H' : Hp} (e : Ext ι H ι' H') (d : List D) (v : List V) (h : DVs G ι H d v) : DVs G ι' H' d v := DVs.mono e.pre e.fix d v h
section
variable {G : Wd} {ι : List Addr} {H : Hp}
theorem DVs.len : ∀ {ds : List D} {vs : List V}, DVs G ι H ds vs → vs.length = ds.length
  | [], _, h => by rw [show _ = [] from h]; rfl
  | d :: ds, _, ⟨v, r, h1, _, h3⟩ => by rw [h1, List.length_cons, List.length_cons, DVs.len h3]
theorem DVs.nil : DVs G ι H [] [] := rfl
theorem DVs.cons {d : D} {ds : List D} {v : V} {vs : List V} (h : DV G ι H d v) (t : DVs G ι H ds vs) : DVs G ι H (d :: ds) (v :: vs) := ⟨v, vs, rfl, h, t⟩
theorem DVs.get : ∀ {ds : List D} {vs : List V} {i : Nat} {d : D}, DVs G ι H ds vs → ds[i]? = some d → ∃ v, vs[i]? = some v ∧ DV G ι H d v
  | d :: ds, _, 0, x, ⟨v, r, h1, h2, h3⟩, e => by
    rw [List.getElem?_cons_zero] at e
    cases e
    exact ⟨v, by rw [h1]; rfl, h2⟩
  | d :: ds, _, i + 1, x, ⟨v, r, h1, h2, h3⟩, e => by
    rw [List.getElem?_cons_succ] at e
    obtain ⟨u, h4, h5⟩ := DVs.get h3 e
    exact ⟨u, by rw [h1, List.getElem?_cons_succ]; exact h4, h5⟩
theorem DVs.app : ∀ {ds es : List D} {vs us : List V}, DVs G ι H ds vs → DVs G ι H es us → DVs G ι H (ds ++ es) (vs ++ us)
  | [], _, _, _, h, t => by
    rw [show _ = [] from h]
    exact t
  | d :: ds, _, _, _, ⟨v, r, h1, h2, h3⟩, t => by
    rw [h1]
    exact ⟨v, _, rfl, h2, DVs.app h3 t⟩
theorem DVs.drop : ∀ {ds : List D} {vs : List V} (n : Nat), DVs G ι H ds vs → DVs G ι H (ds.drop n) (vs.drop n)
  | _, _, 0, h => h
  | [], _, n + 1, h => by
    rw [show _ = [] from h]
    rfl
  | d :: ds, _, n + 1, ⟨v, r, h1, h2, h3⟩ => by
    rw [h1]
    exact DVs.drop n h3
theorem DVs.take : ∀ {ds : List D} {vs : List V} (n : Nat), DVs G ι H ds vs → DVs G ι H (ds.take n) (vs.take n)
  | _, _, 0, h => rfl
  | [], _, n + 1, h => by
    rw [show _ = [] from h]
    rfl
  | d :: ds, _, n + 1, ⟨v, r, h1, h2, h3⟩ => by
    rw [h1]
    exact ⟨v, _, rfl, h2, DVs.take n h3⟩
theorem DVs.set {x : D} {u : V} (hx : DV G ι H x u) : ∀ {ds : List D} {vs : List V} (n : Nat), DVs G ι H ds vs → DVs G ι H (ds.set n x) (vs.set n u)
  | [], _, n, h => by
    rw [show _ = [] from h]
    rfl
  | d :: ds, _, 0, ⟨v, r, h1, h2, h3⟩ => by
    rw [h1]
    exact ⟨u, r, rfl, hx, h3⟩
  | d :: ds, _, n + 1, ⟨v, r, h1, h2, h3⟩ => by
    rw [h1]
    exact ⟨v, _, rfl, h2, DVs.set hx n h3⟩
theorem DVs.ints : ∀ {ds : List D} {vs : List V} {ns : List Int}, DVs G ι H ds vs → mapO asInt ds = some ns → vs = ns.map V.int
  | [], _, ns, h, e => by
    rw [show _ = [] from h]
    cases e
    rfl
  | d :: ds, _, ns, ⟨v, r, h1, h2, h3⟩, e => by
    cases d with
    | int i =>
      simp only [mapO, asInt] at e
      split at e
      · cases e
      · rename_i ys hy
        cases e
        rw [h1, DVs.ints h3 hy, show v = V.int i from h2]
        rfl
    | _ => simp [mapO, asInt] at e
theorem DVs.bls : ∀ {ds : List D} {vs : List V} {ns : List Bool}, DVs G ι H ds vs → mapO asBl ds = some ns → vs = ns.map V.bl
  | [], _, ns, h, e => by
    rw [show _ = [] from h]
    cases e
    rfl
  | d :: ds, _, ns, ⟨v, r, h1, h2, h3⟩, e => by
    cases d with
    | bl i =>
      simp only [mapO, asBl] at e
      split at e
      · cases e
      · rename_i ys hy
        cases e
        rw [h1, DVs.bls h3 hy, show v = V.bl i from h2]
        rfl
    | _ => simp [mapO, asBl] at e
theorem DVs.strs : ∀ {ds : List D} {vs : List V} {ns : List Str}, DVs G ι H ds vs → mapO asStr ds = some ns → vs = ns.map V.str
  | [], _, ns, h, e => by
    rw [show _ = [] from h]
    cases e
    rfl
  | d :: ds, _, ns, ⟨v, r, h1, h2, h3⟩, e => by
    cases d with
    | str i =>
      simp only [mapO, asStr] at e
      split at e
      · cases e
      · rename_i ys hy
        cases e
        rw [h1, DVs.strs h3 hy, show v = V.str i from h2]
        rfl
    | _ => simp [mapO, asStr] at e
end
theorem ndx {l : List Addr} (nd : l.Nodup) {i j : Nat} {x : Addr} (a : l[i]? = some x) (b : l[j]? = some x) : i = j := by
  obtain ⟨h1, e1⟩ := List.getElem?_eq_some_iff.mp a
  obtain ⟨h2, e2⟩ := List.getElem?_eq_some_iff.mp b
  exact (List.getElem_inj nd).mp (e1.trans e2.symm)
def CellOk (G : Wd) (ι : List Addr) (H : Hp) (a : Addr) : Cell → Prop
  | .lst ds => ∃ vs, H a = some (.lst vs) ∧ DVs G ι H ds vs
structure RH (G : Wd) (ι : List Addr) (h : AH) (H : Hp) : Prop where
  len : ι.length = h.length
  nd : ι.Nodup
  cell : ∀ (n : Nat) (a : Addr) (c : Cell), ι[n]? = some a → h[n]? = some c → CellOk G ι H a c
section
variable {G : Wd} {ι : List Addr} {h : AH} {H : Hp}
theorem RH.at (r : RH G ι h H) {n : Nat} {c : Cell} (e : h[n]? = some c) : ∃ a, ι[n]? = some a ∧ CellOk G ι H a c := by
  have hn : n < ι.length := by
    rw [r.len]
    exact (List.getElem?_eq_some_iff.mp e).1
  exact ⟨ι[n], by simp [hn], r.cell n _ c (by simp [hn]) e⟩
theorem RH.mem (r : RH G ι h H) {a : Addr} (ha : a ∈ ι) : ∃ o, H a = some o ∧ ¬ Fix o := by
  obtain ⟨n, hn, e⟩ := List.getElem_of_mem ha
  have hn' : n < h.length := by rw [← r.len]; exact hn
  have := r.cell n a h[n] (by simp [hn, e]) (by simp [hn'])
  cases q : h[n] with
  | lst ds =>
    rw [q] at this
    obtain ⟨vs, h1, _⟩ := this
    exact ⟨_, h1, fun z => z⟩
theorem RH.notIn (r : RH G ι h H) {p : Addr} (hp : H p = none) : p ∉ ι := fun hi => by
  obtain ⟨o, e, _⟩ := r.mem hi
  rw [hp] at e
  cases e
theorem CellOk.ext {ι' : List Addr} {H' : Hp} {a : Addr} {c : Cell} (x : CellOk G ι H a c) (e : Ext ι H ι' H') (ha : H' a = H a) : CellOk G ι' H' a c := by
  cases c with
  | lst ds =>
    obtain ⟨vs, h1, h2⟩ := x
    exact ⟨vs, ha.trans h1, DVs.ext e _ _ h2⟩
/-- a new thing that is no cell -/
theorem ext_new {p : Addr} {o : HO} (r : RH G ι h H) (hp : H p = none) : Ext ι H ι (upd H p o) := by
  refine ⟨List.prefix_refl _, fun _ z => .inl z, fun b u e _ => ?_, fun b u e _ => ?_⟩
  · rw [upd_ne (ne_of_none e hp)]; exact e
  · rw [upd_ne (ne_of_none e hp)]; exact e
theorem RH.new (r : RH G ι h H) {p : Addr} {o : HO} (hp : H p = none) : RH G ι h (upd H p o) :=
  ⟨r.len, r.nd, fun n a c e1 e2 => (r.cell n a c e1 e2).ext (ext_new r hp) (upd_ne fun z => r.notIn hp (by rw [← z]; exact List.mem_of_getElem? e1))⟩
/-- an object at p, outside the cells, gets a place among them -/
theorem ext_push {p : Addr} (r : RH G ι h H) (hp : H p = none) {o : HO} : Ext ι H (ι ++ [p]) (upd H p o) := by
  refine ⟨List.prefix_append _ _, fun x hx => ?_, (ext_new r hp).keep, (ext_new r hp).fix⟩
  rcases List.mem_append.mp hx with z | z
  · exact .inl z
  · exact .inr (by rw [List.mem_singleton.mp z]; exact hp)
theorem RH.push (r : RH G ι h H) {p : Addr} {ds : List D} {vs : List V} (hp : H p = none) (hv : DVs G ι H ds vs) : RH G (ι ++ [p]) (h ++ [.lst ds]) (upd H p (.lst vs)) := by
  have e := ext_push r hp (o := .lst vs)
  refine ⟨by simp [r.len], ?_, fun n a c e1 e2 => ?_⟩
  · refine List.nodup_append.mpr ⟨r.nd, by simp, fun a ha b hb z => ?_⟩
    subst z
    rw [List.mem_singleton.mp hb] at ha
    exact r.notIn hp ha
  · by_cases hn : n < ι.length
    · rw [List.getElem?_append_left hn] at e1
      rw [List.getElem?_append_left (by rw [← r.len]; exact hn)] at e2
      exact (r.cell n a c e1 e2).ext e (upd_ne fun z => r.notIn hp (by rw [← z]; exact List.mem_of_getElem? e1))
    · have hlt := (List.getElem?_eq_some_iff.mp e1).1
      rw [List.length_append, List.length_singleton] at hlt
      have hn' : n = ι.length := by omega
      subst hn'
      rw [List.getElem?_append_right (Nat.le_refl _), Nat.sub_self] at e1
      rw [r.len, List.getElem?_append_right (Nat.le_refl _), Nat.sub_self] at e2
      cases e1
      cases e2
      exact ⟨vs, upd_same, DVs.ext e _ _ hv⟩
theorem CellOk.mono {ι' : List Addr} {a : Addr} {c : Cell} (x : CellOk G ι H a c) (p : ι <+: ι') : CellOk G ι' H a c := by
  cases c with
  | lst ds =>
    obtain ⟨vs, h1, h2⟩ := x
    exact ⟨vs, h1, DVs.mono p (fun _ _ e _ => e) _ _ h2⟩
/-- a list that stands outside the cells becomes one -/
theorem RH.adopt (r : RH G ι h H) {p : Addr} {ds : List D} {vs : List V} (hp : H p = some (.lst vs)) (hn : p ∉ ι) (hv : DVs G ι H ds vs) : RH G (ι ++ [p]) (h ++ [.lst ds]) H := by
  refine ⟨by simp [r.len], ?_, fun n a c e1 e2 => ?_⟩
  · refine List.nodup_append.mpr ⟨r.nd, by simp, fun a ha b hb z => ?_⟩
    subst z
    rw [List.mem_singleton.mp hb] at ha
    exact hn ha
  · by_cases hlt : n < ι.length
    · rw [List.getElem?_append_left hlt] at e1
      rw [List.getElem?_append_left (by rw [← r.len]; exact hlt)] at e2
      exact (r.cell n a c e1 e2).mono (List.prefix_append _ _)
    · have hl := (List.getElem?_eq_some_iff.mp e1).1
      rw [List.length_append, List.length_singleton] at hl
      have hn' : n = ι.length := by omega
      subst hn'
      rw [List.getElem?_append_right (Nat.le_refl _), Nat.sub_self] at e1
      rw [r.len, List.getElem?_append_right (Nat.le_refl _), Nat.sub_self] at e2
      cases e1
      cases e2
      exact ⟨vs, hp, DVs.mono (List.prefix_append _ _) (fun _ _ e _ => e) _ _ hv⟩
/-- a cell is written -/
theorem ext_set {a : Addr} {vs : List V} (r : RH G ι h H) (ha : a ∈ ι) {o : HO} : Ext ι H ι (upd H a o) := by
  obtain ⟨u, hu, nf⟩ := r.mem ha
  refine ⟨List.prefix_refl _, fun _ z => .inl z, fun b x e hb => ?_, fun b x e hf => ?_⟩
  · rw [upd_ne fun z => hb (by rw [z]; exact ha)]; exact e
  · rw [upd_ne fun z => ?_]; exact e
    rw [z, hu] at e
    cases e
    exact nf hf
theorem RH.set (r : RH G ι h H) {n : Nat} {a : Addr} {ds : List D} {vs : List V} (ha : ι[n]? = some a) (hv : DVs G ι H ds vs) : RH G ι (h.set n (.lst ds)) (upd H a (.lst vs)) := by
  have hm := List.mem_of_getElem? ha
  have e := ext_set (vs := vs) r hm (o := .lst vs)
  refine ⟨by simp [r.len], r.nd, fun m b c e1 e2 => ?_⟩
  by_cases hmn : m = n
  · subst hmn
    rw [ha] at e1
    cases e1
    have hlt : m < h.length := by
      rw [← r.len]
      exact (List.getElem?_eq_some_iff.mp ha).1
    rw [List.getElem?_set_self hlt] at e2
    cases e2
    exact ⟨vs, upd_same, DVs.ext e _ _ hv⟩
  · rw [List.getElem?_set_ne (Ne.symm hmn)] at e2
    refine (r.cell m b c e1 e2).ext e (upd_ne fun z => hmn ?_)
    subst z
    exact ndx r.nd e1 ha
end

/-! ### what is wanted behind an evaluation -/
/-- how an evaluation's value lies: from the start (ι, H), at (ι', H') -/
structure Rl (α β : Type) where
  r : List Addr → Hp → List Addr → Hp → α → β → Prop
  sh : ∀ (ι : List Addr) (H : Hp) (ι1 : List Addr) (H1 : Hp) (ι2 : List Addr) (H2 : Hp) (a : α) (b : β), Ext ι H ι1 H1 → Ext ι1 H1 ι2 H2 → r ι1 H1 ι2 H2 a b → r ι H ι2 H2 a b
def Pst {α β : Type} (G : Wd) (rel : Rl α β) (ι : List Addr) (H : Hp) (r : R α) (Q : β → Hp → Prop) (E : XK) : Prop := match r with
  | .ok a h' => ∀ (ι' : List Addr) (H' : Hp) (b : β), Ext ι H ι' H' → RH G ι' h' H' → rel.r ι H ι' H' a b → Q b H'
  | .exc c v h' => ∀ (ι' : List Addr) (H' : Hp) (dx : Addr) (vv : V), Ext ι H ι' H' → RH G ι' h' H' → H' dx = some (.xd [(G.fld c, vv)]) → DV G ι' H' v vv → E (.ref (G.ca c)) (some dx) H'
  | .bad => False
section
variable {α β γ δ : Type} {G : Wd} {rel : Rl α β} {rel2 : Rl γ δ} {ι ι1 : List Addr} {H H1 : Hp} {r : R α} {Q : β → Hp → Prop} {E : XK}
theorem Pst.shift (h : Pst G rel ι H r Q E) (e : Ext ι H ι1 H1) : Pst G rel ι1 H1 r Q E := by
  cases r with
  | ok a h' => exact fun ι' H' b e' rh rl => h ι' H' b (e.trans e') rh (rel.sh _ _ _ _ _ _ _ _ e e' rl)
  | exc c v h' => exact fun ι' H' dx vv e' => h ι' H' dx vv (e.trans e')
  | bad => exact h
theorem Pst.step {f : α → AH → R γ} {Q2 : δ → Hp → Prop} (h : Pst G rel2 ι H (r.bind f) Q2 E) (k : ∀ a h1 ι1 H1 b, Ext ι H ι1 H1 → RH G ι1 h1 H1 → rel.r ι H ι1 H1 a b → Pst G rel2 ι1 H1 (f a h1) Q2 E → Q b H1) : Pst G rel ι H r Q E := by
  cases r with
  | ok a h' => exact fun ι' H' b e' rh rl => k a h' ι' H' b e' rh rl (Pst.shift (show Pst G rel2 ι H (f a h') Q2 E from h) e')
  | exc c v h' => exact h
  | bad => exact h
theorem Pst.step' {f : α → AH → R γ} {Q2 : δ → Hp → Prop} (h : Pst G rel2 ι H (r.bind f) Q2 E) (k : ∀ a h1 ι1 H1 b, r = .ok a h1 → Ext ι H ι1 H1 → RH G ι1 h1 H1 → rel.r ι H ι1 H1 a b → Pst G rel2 ι1 H1 (f a h1) Q2 E → Q b H1) : Pst G rel ι H r Q E := by
  cases r with
  | ok a h' => exact fun ι' H' b e' rh rl => k a h' ι' H' b rfl e' rh rl (Pst.shift (show Pst G rel2 ι H (f a h') Q2 E from h) e')
  | exc c v h' => exact h
  | bad => exact h
theorem Pst.mono {Q2 : β → Hp → Prop} {E2 : XK} (h : Pst G rel ι H r Q E) (k : ∀ b H, Q b H → Q2 b H) (ke : ∀ c d H, E c d H → E2 c d H) : Pst G rel ι H r Q2 E2 := by
  cases r with
  | ok a h' => exact fun ι' H' b e rh rl => k _ _ (h ι' H' b e rh rl)
  | exc c v h' => exact fun ι' H' dx vv e1 e2 e3 e4 => ke _ _ _ (h ι' H' dx vv e1 e2 e3 e4)
  | bad => exact h
end
def rD (G : Wd) : Rl D V := ⟨fun _ _ ι' H' d v => DV G ι' H' d v, fun _ _ _ _ _ _ _ _ _ _ h => h⟩
def rDs (G : Wd) : Rl (List D) (List V) := ⟨fun _ _ ι' H' d v => DVs G ι' H' d v, fun _ _ _ _ _ _ _ _ _ _ h => h⟩
def rX (α : Type) : Rl α α := ⟨fun _ _ _ _ a b => a = b, fun _ _ _ _ _ _ _ _ _ _ h => h⟩
/-- a list that has just been made, no cell -/
def rL (G : Wd) : Rl (List D) V := ⟨fun ι H ι' H' ds v => ∃ a vs, v = .ref a ∧ H' a = some (.lst vs) ∧ a ∉ ι' ∧ H a = none ∧ DVs G ι' H' ds vs, fun ι H ι1 H1 ι2 H2 _ _ e e' ⟨a, vs, h1, h2, h3, h4, h5⟩ => by
  refine ⟨a, vs, h1, h2, h3, ?_, h5⟩
  cases q : H a with
  | none => rfl
  | some o =>
    have := e.keep a o q fun z => h3 ((e.pre.trans e'.pre).subset z)
    rw [h4] at this
    cases this⟩
/-- slots -/
structure RS (G : Wd) (ι : List Addr) (H : Hp) (env : En) (σ : L2.St) : Prop where
  len : env.length = σ.length
  at_ : ∀ (i : Nat) (d : D), env[i]? = some (some d) → ∃ v : V, σ[i]? = some (some v) ∧ DV G ι H d v
theorem RS.ext {G : Wd} {ι ι' : List Addr} {H H' : Hp} {env : En} {σ : L2.St} (r : RS G ι H env σ) (e : Ext ι H ι' H') : RS G ι' H' env σ :=
  ⟨r.len, fun i d x => let ⟨v, h1, h2⟩ := r.at_ i d x; ⟨v, h1, DV.ext e d v h2⟩⟩
theorem RS.set {G : Wd} {ι : List Addr} {H : Hp} {env : En} {σ : L2.St} (r : RS G ι H env σ) {i : Nat} {d : D} {v : V} (h : DV G ι H d v) : RS G ι H (env.set i (some d)) (σ.set i (some v)) := by
  refine ⟨by simp [r.len], fun j x e => ?_⟩
  by_cases hj : j = i
  · subst hj
    have hlt : j < env.length := by
      have := (List.getElem?_eq_some_iff.mp e).1
      simpa using this
    rw [List.getElem?_set_self hlt] at e
    cases e
    exact ⟨v, List.getElem?_set_self (by rw [← r.len]; exact hlt), h⟩
  · rw [List.getElem?_set_ne (Ne.symm hj)] at e
    rw [List.getElem?_set_ne (Ne.symm hj)]
    exact r.at_ j x e
def rEn (G : Wd) : Rl En L2.St := ⟨fun _ _ ι' H' env σ => RS G ι' H' env σ, fun _ _ _ _ _ _ _ _ _ _ h => h⟩
inductive Out where
  | nx (σ : L2.St) | rt (v : V) | bk (σ : L2.St) | ct (σ : L2.St)
def Out.want (D : Ends) : Out → Hp → Prop
  | .nx σ, H => D.nx σ H
  | .rt v, H => D.rt v H
  | .bk σ, H => D.bk σ H
  | .ct σ, H => D.ct σ H
def rF (G : Wd) : Rl Fl Out := ⟨fun _ _ ι' H' f o => match f, o with
  | .nx env, .nx σ => RS G ι' H' env σ
  | .rt d, .rt v => DV G ι' H' d v
  | .bk env, .bk σ => RS G ι' H' env σ
  | .ct env, .ct σ => RS G ι' H' env σ
  | _, _ => False, fun _ _ _ _ _ _ _ _ _ _ h => h⟩
/-- an iterator that yields what is told, as long as the cells in deps stand -/
def Yields (G : Wd) (ι0 : List Addr) (H0 : Hp) (J : It) (src : List D × List (Nat × Cell)) : Prop :=
  ∀ (ι : List Addr) (h : AH) (H : Hp), Ext ι0 H0 ι H → RH G ι h H → depsOk src.2 h = true →
    (∀ (i : Nat) (d : D), src.1[i]? = some d → J.go i H ∧ ∀ x H', J.yld i H x H' → Ext ι H ι H' ∧ RH G ι h H' ∧ DV G ι H' d x) ∧ ∀ i : Nat, src.1.length ≤ i → J.stop i H
theorem Yields.ext {G : Wd} {ι0 ι1 : List Addr} {H0 H1 : Hp} {J : It} {src : List D × List (Nat × Cell)} (y : Yields G ι0 H0 J src) (e : Ext ι0 H0 ι1 H1) : Yields G ι1 H1 J src := fun ι h H e' => y ι h H (e.trans e')
def rI (G : Wd) : Rl (List D × List (Nat × Cell)) It := ⟨fun _ _ ι' H' src J => Yields G ι' H' J src, fun _ _ _ _ _ _ _ _ _ _ h => h⟩
end RV
set_option Elab.async false
set_option linter.all false
set_option maxRecDepth 100000
set_option autoImplicit false
set_option maxHeartbeats 1000000
/-! Part 2: the primitive operations, over the layer's rules. -/
namespace RV
open PySem PySem.Spec PyProof.Rows L2

structure Gd (G : Wd) (S : Scope) (N : List Str) (k : Nat) (X : Cx) : Prop where
  prog : X.prog = G.P
  w : X.w = G.w
  K : X.K = G.K
  mg : X.mg = G.mg
  base : X.base = G.base
  sc : X.env.scope = S
  names : X.N = N
  nd : N.Nodup
  calm : X.calm = true
  room : Room k X.A
  gd : X.A.guards = some []
theorem SZ_eq : SZ = sizeLine := sizeLine_eq.symm
theorem isEmpty_dvs {G : Wd} {ι : List Addr} {H : Hp} {ds : List D} {vs : List V} (h : DVs G ι H ds vs) : (!ds.isEmpty) = !vs.isEmpty := by
  have := h.len
  cases ds <;> cases vs <;> simp_all
section
variable {G : Wd} {ι : List Addr} {ah : AH} {H : Hp}
theorem tru_of (rh : RH G ι ah H) {d : D} {v : V} {k : Bool} (h : DV G ι H d v) (e : truthy d ah = some k) : TruV G.K v H k := by
  cases d with
  | non => rw [show v = V.non from h]; cases e; rfl
  | bl b => rw [show v = V.bl b from h]; cases e; rfl
  | int i => rw [show v = V.int i from h]; cases e; rfl
  | str x =>
    rw [show v = V.str x from h]
    simp only [truthy] at e
    split at e
    · cases e
      rename_i hz
      exact ⟨by rw [← SZ_eq]; exact hz, rfl⟩
    · cases e
  | tup ds =>
    obtain ⟨a, vs, rfl, h1, h2⟩ := h
    cases e
    exact .inr (.inl ⟨vs, h1, isEmpty_dvs h2⟩)
  | rol ds =>
    obtain ⟨a, vs, rfl, h1, h2⟩ := h
    cases e
    exact .inl ⟨vs, h1.sq, isEmpty_dvs h2⟩
  | ref n =>
    obtain ⟨a, h1, rfl⟩ := h
    simp only [truthy] at e
    split at e
    · rename_i ds hc
      cases e
      obtain ⟨vs, h2, h3⟩ := rh.cell n a _ h1 hc
      exact .inl ⟨vs, SqL.of h2, isEmpty_dvs h3⟩
    · cases e
  | fn j => cases e
/-- a list or a tuple, as seqOf reads it -/
theorem seq_of (rh : RH G ι ah H) {d : D} {v : V} {ds : List D} (h : DV G ι H d v) (e : seqOf d ah = some ds) : ∃ a vs, v = .ref a ∧ (SqL G.K H a vs ∨ SqT G.K H a vs) ∧ DVs G ι H ds vs := by
  cases d with
  | tup es =>
    obtain ⟨a, vs, rfl, h1, h2⟩ := h
    cases e
    exact ⟨a, vs, rfl, .inr h1, h2⟩
  | rol es =>
    obtain ⟨a, vs, rfl, h1, h2⟩ := h
    cases e
    exact ⟨a, vs, rfl, .inl h1.sq, h2⟩
  | ref n =>
    obtain ⟨a, h1, rfl⟩ := h
    simp only [seqOf] at e
    split at e
    · rename_i es hc
      cases e
      obtain ⟨vs, h2, h3⟩ := rh.cell n a _ h1 hc
      exact ⟨a, vs, rfl, .inl (SqL.of h2), h3⟩
    · cases e
  | _ => cases e
/-! ### data as the library has it -/
theorem toP_ok (rh : RH G ι ah H) : ∀ (n : Nat) (d : D) (p : PyData) (v : V), toP n ah d = some p → DV G ι H d v → Dp G.K H v p ∧ p.depth ≤ n ∧ p.canLay0 = true ∧ p.hasDict = false := by
  intro n
  induction n with
  | zero => intro d p v e; simp [toP] at e
  | succ n ih =>
    have all : ∀ (ds : List D) (ps : List PyData) (vs : List V), mapO (toP n ah) ds = some ps → DVs G ι H ds vs → DpAll G.K H vs ps ∧ PyData.depthAll ps ≤ n ∧ PyData.canLayAll0 ps = true ∧ PyData.hasDictAll ps = false := by
      intro ds
      induction ds with
      | nil =>
        intro ps vs e h
        cases e
        rw [show vs = [] from h]
        exact ⟨.nil, Nat.zero_le _, rfl, rfl⟩
      | cons d ds ihd =>
        intro ps vs e h
        obtain ⟨v, r, rfl, h1, h2⟩ := h
        simp only [mapO] at e
        split at e
        · cases e
        · rename_i p hp
          split at e
          · cases e
          · rename_i qs hq
            cases e
            obtain ⟨a1, a2, a3, a4⟩ := ih d p v hp h1
            obtain ⟨b1, b2, b3, b4⟩ := ihd qs r hq h2
            exact ⟨.cons a1 b1, by simp only [PyData.depthAll]; omega, by simp only [PyData.canLayAll0, a3, b3, Bool.and_self], by simp only [PyData.hasDictAll, a4, b4, Bool.or_self]⟩
    intro d p v e h
    cases d with
    | non => cases e; rw [show v = V.non from h]; exact ⟨.non, Nat.zero_le _, rfl, rfl⟩
    | bl b => cases e; rw [show v = V.bl b from h]; exact ⟨.bl b, Nat.zero_le _, rfl, rfl⟩
    | int i => cases e; rw [show v = V.int i from h]; exact ⟨.int i, Nat.zero_le _, rfl, rfl⟩
    | str x =>
      simp only [toP] at e
      split at e
      · rename_i hz
        cases e
        rw [show v = V.str x from h]
        exact ⟨.str x, Nat.zero_le _, hz, rfl⟩
      · cases e
    | tup ds =>
      obtain ⟨a, vs, rfl, h1, h2⟩ := h
      simp only [toP] at e
      split at e
      · cases e
      · rename_i ps hp
        cases e
        obtain ⟨a1, a2, a3, a4⟩ := all ds ps vs hp h2
        exact ⟨.tup h1 a1, by simp only [PyData.depth]; omega, by simp only [PyData.canLay0, a3], by simp only [PyData.hasDict, a4]⟩
    | rol ds =>
      obtain ⟨a, vs, rfl, h1, h2⟩ := h
      simp only [toP] at e
      split at e
      · cases e
      · rename_i ps hp
        cases e
        obtain ⟨a1, a2, a3, a4⟩ := all ds ps vs hp h2
        exact ⟨.lst h1.sq a1, by simp only [PyData.depth]; omega, by simp only [PyData.canLay0, a3], by simp only [PyData.hasDict, a4]⟩
    | ref m =>
      obtain ⟨a, h1, rfl⟩ := h
      simp only [toP] at e
      split at e
      · rename_i ds hc
        split at e
        · cases e
        · rename_i ps hp
          cases e
          obtain ⟨vs, h2, h3⟩ := rh.cell m a _ h1 hc
          obtain ⟨a1, a2, a3, a4⟩ := all ds ps vs hp h3
          exact ⟨.lst (SqL.of h2) a1, by simp only [PyData.depth]; omega, by simp only [PyData.canLay0, a3], by simp only [PyData.hasDict, a4]⟩
      · cases e
    | fn j => simp [toP] at e
theorem shaped_ok {p : PyData} (h1 : p.depth ≤ 60) (h2 : p.canLay0 = true) : SeqAt.shaped p = true := by
  unfold SeqAt.shaped
  rw [h2, Bool.true_and, decide_eq_true_eq]
  omega
end
section
variable {G : Wd} {S : Scope} {N : List Str} {k : Nat} {X : Cx} {ι : List Addr} {ah : AH} {H : Hp} {Q : VK} {E : XK}
/-! ### comparisons -/
def rCmp (G : Wd) (o : CmpOp) : R2 := fun x y H Q => ∃ ι ah d e c, RH G ι ah H ∧ DV G ι H d x ∧ DV G ι H e y ∧ cmpP o d e ah = some c ∧ Q (.bl c) H
theorem deq_eq (g : Gd G S N k X) {pins : List (Addr × Obj)} {s : Shared} {σ : L2.St} {H : Hp} {x y : V} {v u : Value} {Q : VK} (I : Inv X pins σ H s) (rx : RelV x v) (ry : RelV y u) {ι : List Addr} {ah : AH} {d e : D} {c : Bool}
    (rh : RH G ι ah H) (hd : DV G ι H d x) (he : DV G ι H e y) (h : deq d e ah = some c) :
    (Q (.bl c) H → wpAny (model X.prog X.w) X.A (compareOp .Eq v u) (EP X pins σ Q) X.xe s) ∧ (Q (.bl (!c)) H → wpAny (model X.prog X.w) X.A (compareOp .NotEq v u) (EP X pins σ Q) X.xe s) := by
  unfold deq at h
  split at h
  · cases h
    cases (show x = .int _ from hd)
    cases (show y = .int _ from he)
    refine ⟨fun q => op_eq pins s σ H _ _ v u Q I rx ry ⟨rfl, ?_⟩, fun q => op_ne pins s σ H _ _ v u Q I rx ry ⟨rfl, ?_⟩⟩
    · simpa using q
    · simpa using q
  · cases h
    cases (show x = .str _ from hd)
    cases (show y = .str _ from he)
    refine ⟨fun q => op_eq pins s σ H _ _ v u Q I rx ry ⟨rfl, ?_⟩, fun q => op_ne pins s σ H _ _ v u Q I rx ry ⟨rfl, ?_⟩⟩
    · simpa using q
    · simpa using q
  · cases h
    cases (show x = .bl _ from hd)
    cases (show y = .bl _ from he)
    refine ⟨fun q => op_eq pins s σ H _ _ v u Q I rx ry ⟨rfl, ?_⟩, fun q => op_ne pins s σ H _ _ v u Q I rx ry ⟨rfl, ?_⟩⟩
    · simpa using q
    · simpa using q
  · cases h
    cases (show x = .non from hd)
    cases (show y = .non from he)
    refine ⟨fun q => op_eq pins s σ H _ _ v u Q I rx ry ⟨rfl, ?_⟩, fun q => op_ne pins s σ H _ _ v u Q I rx ry ⟨rfl, ?_⟩⟩
    · simpa using q
    · simpa using q
  · split at h
    · rename_i p q hp hq
      cases h
      obtain ⟨a1, a2, a3, _⟩ := toP_ok rh DEEP d p x hp hd
      obtain ⟨b1, b2, b3, _⟩ := toP_ok rh DEEP e q y hq he
      rw [← g.K] at a1 b1
      exact ⟨fun z => op_eqD g.room.units pins s σ H x y v u Q I rx ry ⟨p, q, a1, b1, shaped_ok a2 a3, shaped_ok b2 b3, z⟩,
        fun z => op_neD g.room.units pins s σ H x y v u Q I rx ry ⟨p, q, a1, b1, shaped_ok a2 a3, shaped_ok b2 b3, z⟩⟩
    · cases h
theorem in_eq (g : Gd G S N k X) {pins : List (Addr × Obj)} {s : Shared} {σ : L2.St} {H : Hp} {x y : V} {v u : Value} {Q : VK} (I : Inv X pins σ H s) (rx : RelV x v) (ry : RelV y u) {ι : List Addr} {ah : AH} {d e : D} {c : Bool}
    (rh : RH G ι ah H) (hd : DV G ι H d x) (he : DV G ι H e y) (h : inP d e ah = some c) :
    (Q (.bl c) H → wpAny (model X.prog X.w) X.A (compareOp .In v u) (EP X pins σ Q) X.xe s) ∧ (Q (.bl (!c)) H → wpAny (model X.prog X.w) X.A (compareOp .NotIn v u) (EP X pins σ Q) X.xe s) := by
  have hu := g.room.units
  have hun := g.room.un
  unfold inP at h
  split at h
  · split at h
    · rename_i a z hz
      cases h
      cases (show x = .str _ from hd)
      cases (show y = .str _ from he)
      have ea : a = ⟨#[a.cps.getD 0 0]⟩ := by
        obtain ⟨⟨l⟩⟩ := a
        match l, hz with
        | [b], _ => rfl
      refine ⟨fun q => op_in_sign pins s σ H _ _ v u Q I rx ry ⟨_, _, congrArg V.str ea, rfl, q⟩, fun q => op_notIn_sign pins s σ H _ _ v u Q I rx ry ⟨_, _, congrArg V.str ea, rfl, q⟩⟩
    · cases h
  · split at h
    · rename_i p ps hp hq
      cases h
      obtain ⟨a1, a2, a3, _⟩ := toP_ok rh DEEP d p x hp hd
      obtain ⟨b1, b2, b3, _⟩ := toP_ok rh DEEP e _ y hq he
      rw [← g.K] at a1 b1
      exact ⟨fun z => op_inD (by omega) pins s σ H x y v u Q I rx ry ⟨p, ps, a1, b1, shaped_ok a2 a3, shaped_ok b2 b3, z⟩,
        fun z => op_notInD (by omega) pins s σ H x y v u Q I rx ry ⟨p, ps, a1, b1, shaped_ok a2 a3, shaped_ok b2 b3, z⟩⟩
    · rename_i p ps hp hq
      cases h
      obtain ⟨a1, a2, a3, _⟩ := toP_ok rh DEEP d p x hp hd
      obtain ⟨b1, b2, b3, _⟩ := toP_ok rh DEEP e _ y hq he
      rw [← g.K] at a1 b1
      obtain ⟨as, r1⟩ := Dp.reads I p x v a1 rx
      obtain ⟨bs, r2⟩ := Dp.reads I _ y u b1 ry
      have b3' : PyData.canLayAll0 ps = true := b3
      have hD : DEEP = 60 := rfl
      exact ⟨fun z => SeqAt.in_tuple_reads r2 r1 b3' a3 (by omega) ⟨.bl _, H, I, rfl, z⟩, fun z => SeqAt.notIn_tuple_reads r2 r1 b3' a3 (by omega) ⟨.bl _, H, I, rfl, z⟩⟩
    · cases h
theorem snd_cmp (g : Gd G S N k X) (o : CmpOp) : OpR X (compareOp o) (rCmp G o) := by
  intro pins s σ H x y v u Q I rx ry ⟨ι, ah, d, e, c, rh, hd, he, h, q⟩
  cases o with
  | Lt =>
    simp only [cmpP] at h
    split at h
    · cases h
      exact op_lt pins s σ H x y v u Q I rx ry ⟨_, _, hd, he, q⟩
    · cases h
  | LtE =>
    simp only [cmpP] at h
    split at h
    · cases h
      exact op_le pins s σ H x y v u Q I rx ry ⟨_, _, hd, he, q⟩
    · cases h
  | Gt =>
    simp only [cmpP] at h
    split at h
    · cases h
      exact op_gt pins s σ H x y v u Q I rx ry ⟨_, _, hd, he, q⟩
    · cases h
  | GtE =>
    simp only [cmpP] at h
    split at h
    · cases h
      exact op_ge pins s σ H x y v u Q I rx ry ⟨_, _, hd, he, q⟩
    · cases h
  | Eq => exact (deq_eq g I rx ry rh hd he h).1 q
  | NotEq =>
    simp only [cmpP] at h
    split at h
    · rename_i b hb
      cases h
      exact (deq_eq g I rx ry rh hd he hb).2 q
    · cases h
  | Is =>
    simp only [cmpP] at h
    split at h
    · cases h
      refine op_isN pins s σ H x y v u Q I rx ry ⟨he, ?_⟩
      rwa [show decide (x = V.non) = decide (d = D.non) from ?_]
      cases d <;> simp only [DV] at hd <;> first
        | (subst hd; simp)
        | (obtain ⟨_, _, rfl, _⟩ := hd; simp)
        | (obtain ⟨_, _, rfl⟩ := hd; simp)
    · cases h
  | IsNot =>
    simp only [cmpP] at h
    split at h
    · cases h
      refine op_notN pins s σ H x y v u Q I rx ry ⟨he, ?_⟩
      rwa [show decide (x = V.non) = decide (d = D.non) from ?_]
      cases d <;> simp only [DV] at hd <;> first
        | (subst hd; simp)
        | (obtain ⟨_, _, rfl, _⟩ := hd; simp)
        | (obtain ⟨_, _, rfl⟩ := hd; simp)
    · cases h
  | In => exact (in_eq g I rx ry rh hd he h).1 q
  | NotIn =>
    simp only [cmpP] at h
    split at h
    · rename_i b hb
      cases h
      exact (in_eq g I rx ry rh hd he hb).2 q
    · cases h
/-! ### arithmetic -/
def rOp (G : Wd) (o : Operator) : R2 := fun x y H Q => ∃ ι ah d e E, RH G ι ah H ∧ DV G ι H d x ∧ DV G ι H e y ∧ Pst G (rD G) ι H (prim2 o d e ah) Q E
theorem log_of {n a : Nat} (h0 : 0 < a) (h : n < 2 ^ a) : n.log2 < a := PySem.Flt.log2_lt_of h0 h
theorem mul_ok {i j : Int} (h1 : i.natAbs < BIG) (h2 : j.natAbs < BIG) : CMulW i j := wide_mul (a := 400000) (b := 400000) h1 h2 (by decide) (by decide) (by decide)
theorem div_ok {i j : Int} (h1 : 0 < j) (h2 : j.natAbs < DBIG) : CDivW i j := wide_div (b := 8900) h1 h2 (by decide) (by decide)
theorem iop_mulB : OpR X (inplaceOp .Mult) (L2.rI CMulW fun i j => .int (i * j)) := opI fun _ _ _ _ _ _ _ hc q => imul_int q hc.ok
theorem rOp_le (o : Operator) {r : R2} (h : ∀ x y H Q, rOp G o x y H Q → r x y H Q) (f : Value → Value → Sem Value) (hr : OpR X f r) : OpR X f (rOp G o) :=
  fun pins s σ H x y v u Q I rx ry q => hr pins s σ H x y v u Q I rx ry (h _ _ _ _ q)
theorem fin_tup (rh : RH G ι ah H) {ds : List D} {vs : List V} (hv : DVs G ι H ds vs) (h : Pst G (rD G) ι H (.ok (.tup ds) ah) Q E) : ∀ p, H p = none → Q (.ref p) (upd H p (.tup vs)) :=
  fun p hp => h ι _ _ (ext_new rh hp) (rh.new hp) ⟨p, vs, rfl, SqT.of upd_same, DVs.ext (ext_new rh hp) _ _ hv⟩
theorem fin_lst (rh : RH G ι ah H) {ds : List D} {vs : List V} (hv : DVs G ι H ds vs) (h : Pst G (rD G) ι H (new (.lst ds) ah) Q E) : ∀ p, H p = none → Q (.ref p) (upd H p (.lst vs)) :=
  fun p hp => h (ι ++ [p]) _ _ (ext_push rh hp) (rh.push hp hv) ⟨p, by rw [← rh.len, List.getElem?_append_right (Nat.le_refl _), Nat.sub_self]; rfl, rfl⟩
theorem fin_at (rh : RH G ι ah H) {d : D} {v : V} (h : Pst G (rD G) ι H (.ok d ah) Q E) (hv : DV G ι H d v) : Q v H := h ι H v .refl rh hv
theorem DVs.isNil {ds : List D} {vs : List V} (h : DVs G ι H ds vs) : vs = [] ↔ ds = [] := by
  have := h.len
  cases ds <;> cases vs <;> simp_all
theorem DVs.rep {ds : List D} {vs : List V} (h : DVs G ι H ds vs) : ∀ n : Nat, DVs G ι H (List.replicate n ds).flatten (List.replicate n vs).flatten
  | 0 => rfl
  | n + 1 => by
    rw [List.replicate_succ, List.replicate_succ, List.flatten_cons, List.flatten_cons]
    exact h.app (DVs.rep h n)
theorem sz_le {n : Nat} (h : n ≤ SZ) : n ≤ sizeLine := by rw [← SZ_eq]; exact h
/-- t + u -/
theorem cat_fin (g : Gd G S N k X) {f : Value → Value → Sem Value} (hf : OpR X f (rCatA X.K)) {pins : List (Addr × Obj)} {s : Shared} {σ : L2.St} {x y : V} {v u : Value} (I : Inv X pins σ H s) (rx : RelV x v) (ry : RelV y u) {a b : List D}
    (rh : RH G ι ah H) (hd : DV G ι H (.tup a) x) (he : DV G ι H (.tup b) y) (hz : a.length + b.length ≤ SZ) (h : Pst G (rD G) ι H (.ok (.tup (a ++ b)) ah) Q E) : wpAny (model X.prog X.w) X.A (f v u) (EP X pins σ Q) X.xe s := by
  obtain ⟨p, vs, rfl, h1, h2⟩ := hd
  obtain ⟨q, us, rfl, h3, h4⟩ := he
  refine hf pins s σ H _ _ v u Q I rx ry ⟨p, q, vs, us, rfl, rfl, by rw [g.K]; exact h1, by rw [g.K]; exact h3, by rw [h2.len, h4.len]; exact sz_le hz, fun e => ?_, fun n e => ?_, fun n m => ?_⟩
  · have e' := h2.isNil.mp e
    subst e'
    exact fin_at rh h ⟨q, us, rfl, h3, h4⟩
  · have e' := h4.isNil.mp e
    subst e'
    rw [List.append_nil] at h
    exact fin_at rh h ⟨p, vs, rfl, h1, h2⟩
  · exact fin_tup rh (h2.app h4) h
theorem snd_op (g : Gd G S N k X) (o : Operator) : OpR X (binaryOp o) (rOp G o) := by
  intro pins s σ H x y v u Q I rx ry ⟨ι, ah, d, e, E, rh, hd, he, h⟩
  unfold prim2 at h
  split at h
  · exact op_add pins s σ H x y v u Q I rx ry ⟨_, _, hd, he, h ι H _ .refl rh rfl⟩
  · split at h
    · rename_i hz
      exact op_add_str pins s σ H x y v u Q I rx ry ⟨_, _, hd, he, by rw [← SZ_eq]; exact hz, h ι H _ .refl rh rfl⟩
    · exact h.elim
  · split at h
    · rename_i hz
      exact cat_fin g op_catA I rx ry rh hd he hz h
    · exact h.elim
  · split at h
    · rename_i h1 h2
      split at h
      · rename_i hz
        obtain ⟨p, e1, rfl⟩ := hd
        obtain ⟨q, e2, rfl⟩ := he
        obtain ⟨vs, e3, e4⟩ := rh.cell _ p _ e1 h1
        obtain ⟨us, e5, e6⟩ := rh.cell _ q _ e2 h2
        exact op_cat pins s σ H _ _ v u Q I rx ry ⟨p, q, vs, us, rfl, rfl, e3, e5, by rw [e4.len, e6.len]; exact sz_le hz, fin_lst rh (e4.app e6) h⟩
      · exact h.elim
    · exact h.elim
  · exact op_sub pins s σ H x y v u Q I rx ry ⟨_, _, hd, he, h ι H _ .refl rh rfl⟩
  · split at h
    · rename_i hz
      exact op_mulW pins s σ H x y v u Q I rx ry ⟨_, _, hd, he, mul_ok hz.1 hz.2, h ι H _ .refl rh rfl⟩
    · exact h.elim
  · split at h
    · rename_i h1
      split at h
      · rename_i hz
        obtain ⟨p, e1, rfl⟩ := hd
        obtain ⟨vs, e3, e4⟩ := rh.cell _ p _ e1 h1
        exact op_rep pins s σ H _ _ v u Q I rx ry ⟨p, _, vs, rfl, he, e3, by omega, by omega, by rw [e4.len]; exact sz_le hz.2.2, fin_lst rh (e4.rep _) h⟩
      · exact h.elim
    · exact h.elim
  · split at h
    · rename_i hz
      obtain ⟨p, vs, rfl, h1, h2⟩ := hd
      exact op_repT pins s σ H _ _ v u Q I rx ry ⟨p, _, vs, rfl, he, by rw [g.K]; exact h1, fun e => hz.2.2.2 (h2.isNil.mp e), hz.1, hz.2.1, by rw [h2.len]; exact hz.2.2.1, fin_tup rh (h2.rep _) h⟩
    · exact h.elim
  · split at h
    · rename_i hz
      exact op_fdivW pins s σ H x y v u Q I rx ry ⟨_, _, hd, he, div_ok hz.1 hz.2, h ι H _ .refl rh rfl⟩
    · exact h.elim
  · split at h
    · rename_i hz
      exact op_mod pins s σ H x y v u Q I rx ry ⟨_, _, hd, he, hz, h ι H _ .refl rh rfl⟩
    · exact h.elim
  · split at h
    · rename_i hz
      exact op_pow pins s σ H x y v u Q I rx ry ⟨_, _, hd, he, hz, h ι H _ .refl rh rfl⟩
    · exact h.elim
  · exact h.elim
/-- .. in place, of what does not change -/
def rIop (G : Wd) (o : Operator) : R2 := fun x y H Q => ∃ ι ah d e E, RH G ι ah H ∧ DV G ι H d x ∧ DV G ι H e y ∧ iopP o d e = true ∧ Pst G (rD G) ι H (prim2 o d e ah) Q E
theorem snd_iop (g : Gd G S N k X) (o : Operator) : OpR X (inplaceOp o) (rIop G o) := by
  intro pins s σ H x y v u Q I rx ry ⟨ι, ah, d, e, E, rh, hd, he, ht, h⟩
  unfold iopP at ht
  split at ht
  · exact iop_add pins s σ H x y v u Q I rx ry ⟨_, _, hd, he, h ι H _ .refl rh rfl⟩
  · simp only [prim2] at h
    split at h
    · rename_i hz
      exact iop_add_str pins s σ H x y v u Q I rx ry ⟨_, _, hd, he, sz_le hz, h ι H _ .refl rh rfl⟩
    · exact h.elim
  · exact iop_sub pins s σ H x y v u Q I rx ry ⟨_, _, hd, he, h ι H _ .refl rh rfl⟩
  · simp only [prim2] at h
    split at h
    · rename_i hz
      exact iop_mulB pins s σ H x y v u Q I rx ry ⟨_, _, hd, he, mul_ok hz.1 hz.2, h ι H _ .refl rh rfl⟩
    · exact h.elim
  · cases ht
end
end RV
set_option Elab.async false
set_option linter.all false
set_option maxRecDepth 100000
set_option autoImplicit false
set_option maxHeartbeats 1000000
/-! Part 3: built-in functions, places, cuts, stores. -/
namespace RV
open PySem PySem.Spec PyProof.Rows L2

theorem str_ok {i : Int} (h : i.natAbs < SBIG) : i.natAbs.log2 < 1920 := Nat.lt_trans (log_of (a := 1900) (by decide) h) (by decide)
theorem maxI_mem : ∀ (ns : List Int), ns ≠ [] → maxI ns ∈ ns ∧ ∀ y ∈ ns, y ≤ maxI ns
  | [], h => absurd rfl h
  | [a], _ => ⟨by simp [maxI], fun y hy => by simp [maxI] at *; omega⟩
  | a :: b :: r, _ => by
    obtain ⟨h1, h2⟩ := maxI_mem (b :: r) (by simp)
    rw [maxI]
    split
    · exact ⟨List.mem_cons_of_mem _ h1, fun y hy => by
        rcases List.mem_cons.mp hy with rfl | hy
        · omega
        · exact h2 y hy⟩
    · exact ⟨List.mem_cons_self, fun y hy => by
        rcases List.mem_cons.mp hy with rfl | hy
        · omega
        · have := h2 y hy
          omega⟩
theorem minI_mem : ∀ (ns : List Int), ns ≠ [] → minI ns ∈ ns ∧ ∀ y ∈ ns, minI ns ≤ y
  | [], h => absurd rfl h
  | [a], _ => ⟨by simp [minI], fun y hy => by simp [minI] at *; omega⟩
  | a :: b :: r, _ => by
    obtain ⟨h1, h2⟩ := minI_mem (b :: r) (by simp)
    rw [minI]
    split
    · exact ⟨List.mem_cons_of_mem _ h1, fun y hy => by
        rcases List.mem_cons.mp hy with rfl | hy
        · omega
        · exact h2 y hy⟩
    · exact ⟨List.mem_cons_self, fun y hy => by
        rcases List.mem_cons.mp hy with rfl | hy
        · omega
        · have := h2 y hy
          omega⟩
def bltF : Blt → Value
  | .len => .builtin "len"
  | .abs => .builtin "abs"
  | .int => .type "int"
  | .str => .type "str"
  | .gcd => .builtin "math.gcd"
  | .repr => .builtin "repr"
  | .tup => .type "tuple"
  | .list => .type "list"
  | .ord => .builtin "ord"
  | .min2 => .builtin "min"
  | .max2 => .builtin "max"
  | .comb => .builtin "math.comb"
def rBlt (G : Wd) (b : Blt) : List V → Hp → VK → Prop := fun xs H Q => ∃ ι ah ds E, RH G ι ah H ∧ DVs G ι H ds xs ∧ Pst G (rD G) ι H (blt b ds ah) Q E
theorem DVs.one {G : Wd} {ι : List Addr} {H : Hp} {d : D} {vs : List V} (h : DVs G ι H [d] vs) : ∃ v, vs = [v] ∧ DV G ι H d v := by
  obtain ⟨v, r, rfl, h1, h2⟩ := h
  exact ⟨v, by rw [show r = [] from h2], h1⟩
theorem DVs.two {G : Wd} {ι : List Addr} {H : Hp} {d e : D} {vs : List V} (h : DVs G ι H [d, e] vs) : ∃ v u, vs = [v, u] ∧ DV G ι H d v ∧ DV G ι H e u := by
  obtain ⟨v, r, rfl, h1, h2⟩ := h
  obtain ⟨u, rfl, h3⟩ := DVs.one h2
  exact ⟨v, u, rfl, h1, h3⟩
section
variable {G : Wd} {S : Scope} {N : List Str} {k : Nat} {X : Cx}
theorem call_repr (g : Gd G S N k X) {pins : List (Addr × Obj)} {s : Shared} {σ : L2.St} {H : Hp} {x : V} {u : Value} {Q : VK} (I : Inv X pins σ H s) (rx : RelV x u) {ι : List Addr} {ah : AH} {d : D} {z : Str} (rh : RH G ι ah H) (hd : DV G ι H d x)
    (e : repO d ah = some z) (q : Q (.str z) H) : wpAny (model X.prog X.w) X.A (call (.builtin "repr") [u]) (EP X pins σ Q) X.xe s := by
  unfold repO at e
  split at e
  · rename_i p hp
    split at e
    · rename_i hz
      cases e
      rw [Bool.and_eq_true, decide_eq_true_eq] at hz
      obtain ⟨hs, hz⟩ := hz
      obtain ⟨a1, a2, a3, a4⟩ := toP_ok rh DEEP d p x hp hd
      rw [← g.K] at a1
      have hl : p.shown.length ≤ sizeLine := sz_le (by omega)
      have hu := g.room.units
      have hD : DEEP = 60 := rfl
      obtain ⟨as, r1⟩ := Dp.reads I p x u a1 rx
      cases x with
      | non =>
        cases a1
        cases (show u = Value.none from rx)
        exact PySem.P.repr_of_none ⟨V.str _, H, I.tok _, ⟨_, rfl⟩, q⟩
      | bl b =>
        cases a1
        cases (show u = Value.bool b from rx)
        exact PySem.P.repr_of_bool ⟨V.str _, H, I.tok _, ⟨_, rfl⟩, q⟩
      | int i =>
        cases a1
        obtain ⟨t, rfl⟩ := (show ∃ t, u = Value.int i t from rx)
        exact PySem.P.repr_of_int (of_decide_eq_true hs) ⟨V.str _, H, I.tok _, ⟨_, rfl⟩, q⟩
      | str y =>
        cases a1
        obtain ⟨t, rfl⟩ := (show ∃ t, u = Value.str y t from rx)
        exact PySem.P.repr_of_str ⟨V.str _, H, I.tok _, ⟨_, rfl⟩, q⟩ (hsz := hl)
      | ref a =>
        cases (show u = Value.ref a from rx)
        exact PySem.repr_of_reads' r1 hs (fun w => by rw [a4] at w; cases w) g.gd (by omega) (fun _ _ w => w) (fun h' w tk hk => ⟨V.str _, H, I.kept hk, ⟨_, rfl⟩, q⟩) hl
      | _ => cases a1
    · cases e
  · cases e
theorem snd_blt (g : Gd G S N k X) (b : Blt) : CallR X (bltF b) (rBlt G b) := by
  intro pins s σ H xs us Q I r ⟨ι, ah, ds, E, rh, hv, h⟩
  unfold blt at h
  split at h
  · obtain ⟨v, rfl, h1⟩ := hv.one
    cases (show v = V.str _ from h1)
    split at h
    · rename_i hz
      exact call_len_str pins s σ H _ us Q I r ⟨_, rfl, sz_le hz, fin_at rh h rfl⟩
    · exact h.elim
  · obtain ⟨v, rfl, h1⟩ := hv.one
    split at h
    · rename_i es he
      obtain ⟨a, vs, rfl, h2, h3⟩ := seq_of rh h1 he
      rw [← g.K] at h2
      have hl := h3.len
      refine call_len_seq pins s σ H _ us Q I r ⟨a, vs, rfl, h2, ?_⟩
      rw [hl]
      exact fin_at rh h rfl
    · exact h.elim
  · obtain ⟨v, rfl, h1⟩ := hv.one
    cases (show v = V.int _ from h1)
    exact call_abs pins s σ H _ us Q I r ⟨_, rfl, fin_at rh h rfl⟩
  · obtain ⟨v, rfl, h1⟩ := hv.one
    cases (show v = V.int _ from h1)
    exact call_int1 pins s σ H _ us Q I r (.inl ⟨_, rfl, fin_at rh h rfl⟩)
  · obtain ⟨v, rfl, h1⟩ := hv.one
    cases (show v = V.str _ from h1)
    split at h
    · rename_i n hn
      split at h
      · rename_i hz
        exact call_int_str pins s σ H _ us Q I r ⟨_, n, rfl, hn, hz, fin_at rh h rfl⟩
      · exact h.elim
    · exact h.elim
  · obtain ⟨v, rfl, h1⟩ := hv.one
    cases (show v = V.int _ from h1)
    split at h
    · rename_i hz
      exact call_str_int pins s σ H _ us Q I r ⟨_, rfl, str_ok hz, fin_at rh h rfl⟩
    · exact h.elim
  · obtain ⟨v, u, rfl, h1, h2⟩ := hv.two
    cases (show v = V.int _ from h1)
    cases (show u = V.int _ from h2)
    exact cr_gcd pins s σ H _ us Q I r ⟨_, _, rfl, fin_at rh h rfl⟩
  · obtain ⟨v, rfl, h1⟩ := hv.one
    split at h
    · rename_i z hz
      obtain ⟨u, rfl, ru⟩ := vals1 r
      exact call_repr g I ru rh h1 hz (fin_at rh h rfl)
    · exact h.elim
  · obtain ⟨v, rfl, h1⟩ := hv.one
    split at h
    · rename_i es he
      obtain ⟨a, vs, rfl, h2, h3⟩ := seq_of rh h1 he
      rw [← g.K] at h2
      rcases h2 with h2 | h2
      · exact call_tuple_of pins s σ H _ us Q I r ⟨a, vs, rfl, .inl ⟨h2, fin_tup rh h3 h⟩⟩
      · exact call_tuple_of pins s σ H _ us Q I r ⟨a, vs, rfl, .inr ⟨h2, fin_at rh h ⟨a, vs, rfl, by rw [← g.K]; exact h2, h3⟩⟩⟩
    · exact h.elim
  · obtain ⟨v, rfl, h1⟩ := hv.one
    split at h
    · rename_i es he
      obtain ⟨a, vs, rfl, h2, h3⟩ := seq_of rh h1 he
      rw [← g.K] at h2
      exact call_list_of pins s σ H _ us Q I r ⟨a, vs, rfl, h2, fin_lst rh h3 h⟩
    · exact h.elim
  · exact h.elim
/-! ### isinstance -/
def tyN : Ty → String
  | .int => "int" | .bool => "bool" | .str => "str" | .tup => "tuple" | .lst => "list"
def rIs (G : Wd) (t : Ty) : List V → Hp → VK → Prop := fun xs H Q => ∃ ι ah d v c, xs = [v, .ty (tyN t)] ∧ RH G ι ah H ∧ DV G ι H d v ∧ isTy d t ah = some c ∧ Q (.bl c) H
theorem snd_isi (g : Gd G S N k X) (t : Ty) : CallR X (.builtin "isinstance") (rIs G t) := by
  intro pins s σ H xs us Q I r ⟨ι, ah, d, v, c, e, rh, hd, h, q⟩
  have go : ∀ (T : String), TyX X.K H v (.type T) → kitB T (tyN t) = some c → wpAny (model X.prog X.w) X.A (call (.builtin "isinstance") us) (EP X pins σ Q) X.xe s := fun T ty kt =>
    call_isi pins s σ H xs us Q I r ⟨v, _, _, _, c, e, .ty _, ty, kit_ty kt, q⟩
  cases d with
  | non => cases (show v = V.non from hd); cases h; exact go "NoneType" (.base .non) (by cases t <;> decide +kernel)
  | bl b => cases (show v = V.bl b from hd); cases h; exact go "bool" (.base (.bl b)) (by cases t <;> decide +kernel)
  | int i => cases (show v = V.int i from hd); cases h; exact go "int" (.base (.int i)) (by cases t <;> decide +kernel)
  | str x => cases (show v = V.str x from hd); cases h; exact go "str" (.base (.str x)) (by cases t <;> decide +kernel)
  | tup ds =>
    obtain ⟨a, vs, rfl, h1, h2⟩ := hd
    cases h
    rw [← g.K] at h1
    refine go "tuple" ?_ (by cases t <;> decide +kernel)
    rcases h1 with (h1 | ⟨o, h1⟩) | ⟨o, its, n, h1, h3, _⟩
    · exact .base (.tup h1)
    · exact .fTuple h1
    · exact .kTuple h1 h3
  | rol ds =>
    obtain ⟨a, vs, rfl, h1, h2⟩ := hd
    cases h
    rw [← g.K] at h1
    refine go "list" ?_ (by cases t <;> decide +kernel)
    rcases h1 with ⟨o, h1⟩ | h1
    · exact .base (.frz h1)
    · obtain ⟨_, o, h3, h4⟩ := h1 H
      exact .kList h3 h4
  | ref n =>
    obtain ⟨a, h1, rfl⟩ := hd
    simp only [isTy] at h
    split at h
    · rename_i ds hc
      cases h
      obtain ⟨vs, h2, h3⟩ := rh.cell n a _ h1 hc
      exact go "list" (.base (.lst h2)) (by cases t <;> decide +kernel)
    · cases h
  | fn j => cases h
/-! ### a list that has just been made -/
def bltTF : BltT → Value
  | .tup => .type "tuple"
  | .all => .builtin "all"
  | .any => .builtin "any"
  | .sum => .builtin "sum"
  | .max => .builtin "max"
  | .min => .builtin "min"
  | .len => .builtin "len"
def rBltT (G : Wd) (b : BltT) : List V → Hp → VK → Prop := fun xs H Q => ∃ ι ah ds a vs E, xs = [.ref a] ∧ H a = some (.lst vs) ∧ RH G ι ah H ∧ DVs G ι H ds vs ∧ Pst G (rD G) ι H (bltT b ds ah) Q E
theorem snd_bltT (g : Gd G S N k X) (b : BltT) : CallR X (bltTF b) (rBltT G b) := by
  intro pins s σ H xs us Q I r ⟨ι, ah, ds, a, vs, E, exs, ha, rh, hv, h⟩
  subst exs
  have sq : SqL X.K H a vs := SqL.of ha
  cases b with
  | tup => exact call_tuple_of pins s σ H _ us Q I r ⟨a, vs, rfl, .inl ⟨sq, fin_tup rh hv h⟩⟩
  | len =>
    refine call_len_seq pins s σ H _ us Q I r ⟨a, vs, rfl, .inl sq, ?_⟩
    rw [hv.len]
    exact fin_at rh h rfl
  | all =>
    simp only [bltT] at h
    split at h
    · rename_i bs hb
      have e := DVs.bls hv hb
      subst e
      exact cr_all g.calm pins s σ H _ us Q I r ⟨a, bs, rfl, sq, fin_at rh h rfl⟩
    · exact h.elim
  | any =>
    simp only [bltT] at h
    split at h
    · rename_i bs hb
      have e := DVs.bls hv hb
      subst e
      exact cr_any g.calm pins s σ H _ us Q I r ⟨a, bs, rfl, sq, fin_at rh h rfl⟩
    · exact h.elim
  | sum =>
    simp only [bltT] at h
    split at h
    · rename_i bs hb
      have e := DVs.ints hv hb
      subst e
      exact cr_sum g.calm pins s σ H _ us Q I r ⟨a, bs, rfl, sq, fin_at rh h rfl⟩
    · exact h.elim
  | max =>
    simp only [bltT] at h
    split at h
    · rename_i bs hb
      have e := DVs.ints hv hb
      subst e
      split at h
      · exact h.elim
      · rename_i hne
        obtain ⟨m1, m2⟩ := maxI_mem bs hne
        refine cr_max g.calm pins s σ H _ us Q I r ⟨a, bs, rfl, sq, List.length_pos_iff.mpr hne, fun m hm1 hm2 => ?_⟩
        have e1 := hm2 _ m1
        have e2 := m2 _ hm1
        obtain rfl : m = maxI bs := by omega
        exact fin_at rh h rfl
    · exact h.elim
  | min =>
    simp only [bltT] at h
    split at h
    · rename_i bs hb
      have e := DVs.ints hv hb
      subst e
      split at h
      · exact h.elim
      · rename_i hne
        obtain ⟨m1, m2⟩ := minI_mem bs hne
        refine cr_min g.calm pins s σ H _ us Q I r ⟨a, bs, rfl, sq, List.length_pos_iff.mpr hne, fun m hm1 hm2 => ?_⟩
        have e1 := hm2 _ m1
        have e2 := m2 _ hm1
        obtain rfl : m = minI bs := by omega
        exact fin_at rh h rfl
    · exact h.elim
/-! ### places, cuts -/
def rSub (G : Wd) : R2 := fun x y H Q => ∃ ι ah d e E, RH G ι ah H ∧ DV G ι H d x ∧ DV G ι H e y ∧ Pst G (rD G) ι H (subP d e ah) Q E
theorem atI_dvs {ι : List Addr} {H : Hp} {ds : List D} {vs : List V} {i : Int} {d : D} (h : DVs G ι H ds vs) (e : L2.atI ds i = some d) : ∃ v, L2.atI vs i = some v ∧ DV G ι H d v := by
  unfold L2.atI at e ⊢
  rw [h.len]
  cases q : L2.ixN ds.length i with
  | none => rw [q] at e; cases e
  | some j =>
    rw [q] at e
    exact h.get e
theorem snd_sub (g : Gd G S N k X) : IxR X (rSub G) := by
  intro vl sl pins s σ H x y v u Q I rx ry hh hsub
  obtain ⟨ι, ah, d, e, E, rh, hd, he, h⟩ := hh
  unfold subP at h
  split at h
  · cases (show x = V.str _ from hd)
    cases (show y = V.int _ from he)
    split at h
    · rename_i hz
      split at h
      · rename_i c hc
        exact ix_str vl sl pins s σ H _ _ v u Q I rx ry ⟨_, _, c, rfl, rfl, sz_le hz, hc, fin_at rh h rfl⟩ hsub
      · exact h.elim
    · exact h.elim
  · cases (show y = V.int _ from he)
    split at h
    · rename_i ds hs
      split at h
      · rename_i z hz
        obtain ⟨a, vs, rfl, h2, h3⟩ := seq_of rh hd hs
        obtain ⟨w, h4, h5⟩ := atI_dvs h3 hz
        rw [← g.K] at h2
        rcases h2 with h2 | h2
        · exact ix_list vl sl pins s σ H _ _ v u Q I rx ry ⟨a, vs, _, w, rfl, rfl, h2, h4, fin_at rh h h5⟩ hsub
        · exact ix_tup vl sl pins s σ H _ _ v u Q I rx ry ⟨a, vs, _, w, rfl, rfl, h2, h4, fin_at rh h h5⟩ hsub
      · exact h.elim
    · exact h.elim
  · exact h.elim
def rSl (G : Wd) : V → Option Int → Option Int → Hp → VK → Prop := fun x lo hi H Q => ∃ ι ah d E, RH G ι ah H ∧ DV G ι H d x ∧ Pst G (rD G) ι H (sliceP d lo hi ah) Q E
theorem cut_dvs {ι : List Addr} {H : Hp} {ds : List D} {vs : List V} {lo hi : Option Int} (h : DVs G ι H ds vs) : DVs G ι H (cutL ds lo hi) (cutV vs lo hi) := by
  unfold cutL cutV
  rw [h.len]
  exact (h.drop _).take _
theorem snd_sl (g : Gd G S N k X) : SlR X (rSl G) := by
  intro pins s σ H x v vl vu lo hi sl Q I rx hs pl pu ⟨ι, ah, d, E, rh, hd, h⟩
  unfold sliceP at h
  split at h
  · cases (show x = V.str _ from hd)
    split at h
    · rename_i hz
      exact sl_str pins s σ H _ v vl vu lo hi sl Q I rx hs pl pu ⟨_, rfl, sz_le hz, fin_at rh h rfl⟩
    · exact h.elim
  · obtain ⟨a, vs, rfl, h1, h2⟩ := hd
    rw [← g.K] at h1
    refine sl_tupA pins s σ H _ v vl vu lo hi sl Q I rx hs pl pu ⟨a, vs, rfl, h1, fun w => ?_, fun _ => fin_tup rh (cut_dvs h2) h⟩
    rw [h2.len] at w
    have ec : ∀ ds : List D, HT.sIx ds.length 0 lo = 0 ∧ HT.sIx ds.length ds.length hi = ds.length → cutL ds lo hi = ds := fun ds w => by
      unfold cutL
      rw [w.1, w.2]
      simp
    rw [ec _ w] at h
    exact fin_at rh h ⟨a, vs, rfl, by rw [← g.K]; exact h1, h2⟩
  · obtain ⟨a, vs, rfl, h1, h2⟩ := hd
    rw [← g.K] at h1
    exact sl_list pins s σ H _ v vl vu lo hi sl Q I rx hs pl pu ⟨a, vs, rfl, h1.sq, fin_lst rh (cut_dvs h2) h⟩
  · obtain ⟨a, h1, rfl⟩ := hd
    split at h
    · rename_i ds hc
      obtain ⟨vs, h2, h3⟩ := rh.cell _ a _ h1 hc
      exact sl_list pins s σ H _ v vl vu lo hi sl Q I rx hs pl pu ⟨a, vs, rfl, SqL.of h2, fin_lst rh (cut_dvs h3) h⟩
    · exact h.elim
  · exact h.elim
/-! ### stores -/
def rSet (G : Wd) : V → V → V → Hp → (Hp → Prop) → Prop := fun o i v H Q => ∃ ι ah a b c E, RH G ι ah H ∧ DV G ι H a o ∧ DV G ι H b i ∧ DV G ι H c v ∧ Pst G (rX Unit) ι H (setP a b c ah) (fun _ H' => Q H') E
theorem snd_set (g : Gd G S N k X) : PSet X (rSet G) := by
  intro pins s σ H o i v ov iv u Q I ro ri rv ⟨ι, ah, a, b, c, E, rh, ha, hb, hc, h⟩
  unfold setP at h
  split at h
  · cases (show i = V.int _ from hb)
    obtain ⟨p, h1, rfl⟩ := ha
    split at h
    · rename_i ds hd
      split at h
      · rename_i j hj
        obtain ⟨vs, h2, h3⟩ := rh.cell _ p _ h1 hd
        exact set_list pins s σ H _ _ v ov iv u Q I ro ri rv ⟨p, vs, _, j, rfl, rfl, h2, by rw [h3.len]; exact hj,
          h ι _ () (ext_set (vs := vs) rh (List.mem_of_getElem? h1)) (rh.set h1 (DVs.set hc j h3)) rfl⟩
      · exact h.elim
    · exact h.elim
  · exact h.elim
/-! ### methods -/
def rMt (G : Wd) (m : Mth) : V → List V → Hp → VK → Prop := fun x xs H Q => ∃ ι ah d ds E, RH G ι ah H ∧ DV G ι H d x ∧ DVs G ι H ds xs ∧ Pst G (rD G) ι H (methP m d ds ah) Q E
theorem snd_append (g : Gd G S N k X) : MtR X "list.append" (rMt G .append) := by
  intro pins s σ H x xs v us Q I rx r ⟨ι, ah, d, ds, E, rh, hd, hv, h⟩
  unfold methP at h
  split at h
  · obtain ⟨p, h1, rfl⟩ := hd
    obtain ⟨w, rfl, h4⟩ := hv.one
    split at h
    · rename_i es hc
      split at h
      · rename_i hz
        obtain ⟨vs, h2, h3⟩ := rh.cell _ p _ h1 hc
        refine mt_append pins s σ H _ _ v us Q I rx r ⟨p, vs, w, rfl, rfl, h2, by rw [h3.len, ← SZ_eq]; exact hz, ?_⟩
        exact h ι _ _ (ext_set (vs := vs) rh (List.mem_of_getElem? h1)) (rh.set h1 (h3.app (DVs.cons h4 DVs.nil))) rfl
      · exact h.elim
    · exact h.elim
  · exact h.elim
end
end RV
set_option Elab.async false
set_option linter.all false
set_option maxRecDepth 100000
set_option autoImplicit false
set_option maxHeartbeats 4000000
/-! Own errors: __init__ says super().__init__(a text), then keeps one field. -/
namespace RV
open PySem PySem.W PySem.Calls PyProof.Rows
/-- the shape of such an __init__ -/
def iArgs (P : Str) (p1 p2 : Pos) : Arguments := { posonlyargs := [], args := [{ arg := "self", annotation := none, pos := p1 }, { arg := P, annotation := none, pos := p2 }], vararg := none, kwonlyargs := [], kw_defaults := [], kwarg := none, defaults := [] }
def iBody (F P msg : Str) (j : Nat) (a1 a2 a3 a4 a5 a6 b1 b2 b3 b4 : Pos) : List Stmt :=
  [.Expr (.Call (.Attribute (.Call (.Name "super" a1) [] [] a2) "__init__" a3) [.Constant (.str msg) j a4] [] a5) a6, .Assign [.Attribute (.Name "self" b1) F b2] (.Name P b3) b4]
structure ISc (P : Str) (sc : Scope) : Prop where
  kind : sc.kind = .function
  co : sc.isCoroutine = false
  gen : sc.isGenerator = false
  self : sc.names.lookup ("self" : Str) = some .local
  prm : sc.names.lookup P = some .local
  sup : sc.names.lookup ("super" : Str) = some .globalImplicit
  cls : sc.names.lookup ("__class__" : Str) = some .free
  cell : ∀ x ∈ sc.names, x.2 ≠ .cell
/-- what the written part says of an own error's class at C, its __init__ at fI -/
structure ExF (prog : Program) (K : Frag) (C fI : Addr) (F : Str) : Prop where
  cls : L2.OexC K C
  ga : findIn K (.ref C) "__getattribute__" = some (some (.builtin "BaseException.__getattribute__"))
  gg : findIn K (.ref C) "__getattr__" = some none
  noN : findIn K (.ref C) F = some none
  iC : findIn K (.ref C) "__init__" = some (some (.ref fI))
  tC : typeIn K (.ref fI) = some (.type "function")
  hdC : hasDictIn K C = true
  sup : ks_superIn K C C "__init__" = some (some (.builtin "ValueError.__init__"))
  sB : subIn K (.ref C) (.type "ValueError") = some true
  mr : mroIn K C (.ref C) = some true
  opq : nsIn K cStatics "thirdparty.any" = some none
  noS : nsIn K mainGlobals "super" = some none
  top : (prog.main.scope.names.lookup ("super" : Str)).isSome = false
  fn : ∃ (P msg : Str) (sc : Scope) (oc ccl cl : Value) (od cdd cld : Option Addr) (dV kV doc pm ct : Value) (an : Option Addr) (osl ccs csl : Array (Option Value)) (cda cc : Addr) (vs : Array Value) (file : Str) (tf : Tok) (nm q : Str) (j : Nat) (p1 p2 a1 a2 a3 a4 a5 a6 b1 b2 b3 b4 : Pos),
    ISc P sc ∧ P ≠ "self" ∧ (P == ("__debug__" : Str)) = false ∧ msg.length ≤ 1000 ∧ K.lookup fI = some ⟨oc, od, .func (ksFn nm q (iArgs P p1 p2) (iBody F P msg j a1 a2 a3 a4 a5 a6 b1 b2 b3 b4) sc .none .none doc pm an (.ref cda) ct cc), osl⟩ ∧ codeIn K (.ref cda) q = true ∧
      K.lookup cda = some ⟨ccl, cdd, .fields vs, ccs⟩ ∧ vs[2]? = some (.str file tf) ∧ ((prog.main.file : Str) == file) = true ∧ K.lookup cc = some ⟨cl, cld, .cell (some (.ref C)), csl⟩ ∧
      (∀ x v : Value, bindArgs (ksFn nm q (iArgs P p1 p2) (iBody F P msg j a1 a2 a3 a4 a5 a6 b1 b2 b3 b4) sc .none .none doc pm an (.ref cda) ct cc) ⟨[x, v], []⟩ = pure [(("self" : Str), x), (P, v)]) ∧
      (∀ env : PySem.Env, ∃ pl, eval (.Call (.Attribute (.Call (.Name "super" a1) [] [] a2) "__init__" a3) [.Constant (.str msg) j a4] [] a5) env = (do
        let ov ← attributeBase (.Call (.Name "super" a1) [] [] a2) "__init__" env (eval (.Call (.Name "super" a1) [] [] a2) env)
        standAt a3.atName
        let (f, first) ← holding [ov] (getMethod ov "__init__" pl)
        callWith a5 f first (backTo a5 (starEach [.Constant (.str msg) j a4] env)) []))
/-- what __init__ leaves of a fresh exception at x -/
structure InitEnd (h h' : Heap) (x C dx t1 : Addr) (F : Str) (v : Value) : Prop where
  keep : ∀ b o, b ≠ x → h.get? b = some o → h'.get? b = some o
  obj : h'.get? x = some { cls := .ref C, dict := some dx, data := .fields #[.ref t1, .none, .none, .none, .bool false, .none] }
  dbig : h.objs.size ≤ dx
  dne : dx ≠ x
  ns : h'.Ns1 dx (fun y => if y = F then some v else none)
section
variable {prog : Program} {w : World} {A : Around} {E : Value → Shared → Prop} {R : Result → Shared → Prop} {s : Shared} {K : Frag} {mg mb : Str → Option Value} {C fI : Addr} {F : Str}
theorem init_ok (T : ExF prog K C fI F) {x t0 : Addr} {v : Value} (X : K.In s.heap) (hg : s.heap.Ns mainGlobals mg) (hb : s.heap.Ns builtinsNs mb) (hbb : ∀ x : Str, x ≠ "__name__" → mb x = bootBuiltins x) (hlim : s.heap.NoLimit)
    (hx : s.heap.get? x = some (HandSPX.excO C t0)) (hnx : K.lookup x = none) (hroom : A.depth < recursionLimit)
    (hq : ∀ h' tk dx t1, InitEnd s.heap h' x C dx t1 F v → R (.ok (.ret .none)) { s with heap := h', toks := tk }) : codeAny (model prog w) A (.call (.ref fI) ⟨[.ref x, v], []⟩) R s := by
  obtain ⟨P, msg, sc, oc, ccl, cl, od, cdd, cld, dV, kV, doc, pm, ct, an, osl, ccs, csl, cda, cc, vs, file, tf, nm, q, j, p1, p2, a1, a2, a3, a4, a5, a6, b1, b2, b3, b4, S, hP, hPd, hml, ho, hcd, hcda, hvs, hfile, hcc, hbd, hev⟩ := T.fn
  obtain ⟨nm', q', N, bs, bm, sn, sub, ab, col, dd, k0, k1, k2, k3, k5, hC, hbm⟩ := T.cls.cls
  have hcl : clsIn K C = some { name := nm', bases := bs, mro := .ref C :: bm, ns := N, qualname := q', hasDict := true, slotNames := sn, subclasses := sub, abstract := ab, collection := col, hasDel := false } := by unfold clsIn; rw [hC] <;> rfl
  have hkS : ∀ y : Str, y ≠ "self" → y ≠ P → True := fun _ _ _ => trivial
  refine ks_codeAny_call_defAt (binds := [(("self" : Str), .ref x), (P, v)]) hroom (X _ _ ho) rfl hlim (codeRec_of X hcd) rfl (BindsTo.of_eq (hbd _ _)) S.cell (fun y hy => ?_) (fun h₁ hns k => ?_) S.co S.gen S.kind
  · rcases List.mem_cons.mp hy with rfl | hy
    · exact S.self
    · rw [List.mem_singleton.mp hy]
      exact S.prm
  have X₁ : K.In h₁ := X.keeps k
  have hx₁ := k _ _ hx
  have hv1 : List.lookup ("self" : Str) [(("self" : Str), Value.ref x), (P, v)].reverse = some (.ref x) := by
    have : (("self" : Str) == P) = false := by simpa using fun z => hP z.symm
    simp [List.lookup, this]
  have hv2 : List.lookup P [(("self" : Str), Value.ref x), (P, v)].reverse = some v := by simp [List.lookup]
  have inst : W.InstAt h₁ x (HandSPX.excO C t0) C none := ⟨hx₁, rfl, rfl, trivial⟩
  have hD : h₁.get? C = some (excClassObj nm' q' C N bs bm true sn sub ab col dd k0 k1 k2 k3 k5 "ValueError.__new__") := X₁ _ _ hC
  have hsup : (callEnv (ksFn nm q (iArgs P p1 p2) (iBody F P msg j a1 a2 a3 a4 a5 a6 b1 b2 b3 b4) sc .none .none doc pm an (.ref cda) ct cc) s.heap.objs.size fI).kindOf "super" = some .globalImplicit := S.sup
  have hcls : (callEnv (ksFn nm q (iArgs P p1 p2) (iBody F P msg j a1 a2 a3 a4 a5 a6 b1 b2 b3 b4) sc .none .none doc pm an (.ref cda) ct cc) s.heap.objs.size fI).kindOf "__class__" = some .free := S.cls
  have hself : (callEnv (ksFn nm q (iArgs P p1 p2) (iBody F P msg j a1 a2 a3 a4 a5 a6 b1 b2 b3 b4) sc .none .none doc pm an (.ref cda) ct cc) s.heap.objs.size fI).kindOf "self" = some .local := S.self
  have hprm : (callEnv (ksFn nm q (iArgs P p1 p2) (iBody F P msg j a1 a2 a3 a4 a5 a6 b1 b2 b3 b4) sc .none .none doc pm an (.ref cda) ct cc) s.heap.objs.size fI).kindOf P = some .local := S.prm
  have hknd : (callEnv (ksFn nm q (iArgs P p1 p2) (iBody F P msg j a1 a2 a3 a4 a5 a6 b1 b2 b3 b4) sc .none .none doc pm an (.ref cda) ct cc) s.heap.objs.size fI).scope.kind = .function := S.kind
  generalize hE : callEnv (ksFn nm q (iArgs P p1 p2) (iBody F P msg j a1 a2 a3 a4 a5 a6 b1 b2 b3 b4) sc .none .none doc pm an (.ref cda) ct cc) s.heap.objs.size fI = env at *
  have eloc : env.locals = s.heap.objs.size := by rw [← hE]; rfl
  have eglo : env.globals = mainGlobals := by rw [← hE]; rfl
  have eblt : env.builtins = builtinsNs := by rw [← hE]; rfl
  have ecel : env.cells = [(("__class__" : Str), cc)] := by rw [← hE]; rfl
  have ecod : env.code = .ref cda := by rw [← hE]; rfl
  have efun : env.func = some fI := by rw [← hE]; rfl
  have hint : interactive env = false := by simp [interactive, hknd]
  obtain ⟨pl, hev⟩ := hev env
  refine ks_wpAt_execs_cons (ks_wpAt_Expr_any (ks_wpAt_MethodCall ?_ hev) hint (by rfl))
  refine ks_wpAt_super_base (attr := "__init__") hsup hcls (by decide) efun (X₁ _ _ ho) rfl rfl ecod (X₁ _ _ hcda) rfl hvs hfile T.top ?_
  refine ks_loadName_global hknd hsup (loadGlobal_builtin (by rw [eglo]; exact hg.keeps k) (mg_none_of X hg T.noS) (by rw [eblt]; exact hb.keeps k) ((hbb _ (by decide)).trans (by decide +kernel)) ⟨rfl, ?_⟩)
  refine wpAny_loadName_free hknd hcls (by rw [ecel]; rfl) ⟨_, X₁ _ _ hcc, rfl⟩ ?_
  refine wpAny_loadName_local hknd hself (by rw [eloc]; exact hns) hv1 ?_
  refine ks_wpAny_isType_cls hD rfl ⟨rfl, ?_⟩
  refine ks_wpAny_call_super hD rfl hx₁ rfl (fun c z => by cases z) (looks_mroIn X₁ T.mr) (fun h₂ e2 k2 => ?_)
  have X₂ : K.In h₂ := X₁.keeps k2
  have hx₂ := k2 _ _ hx₁
  have inst₂ : W.InstAt h₂ x (HandSPX.excO C t0) C none := ⟨hx₂, rfl, rfl, trivial⟩
  have hsup2 := T.sup
  unfold ks_superIn at hsup2
  rw [hcl, Option.bind_some] at hsup2
  refine kxs_getMethod kxs_ValueError e2 (looks_opaque X₂ T.opq) (l₀ := Value.ref C :: bm) (fun A Q E s k q => wpAny_bind ((looks_clsIn X₂ hcl) A _ E s k (wpAny_pure q))) rfl X₂ hsup2 (inst₂.type.andThen (looks_subIn X₂ T.sB)) (ks_ne X₂ inst₂ hcl) (by decide) ?_
  have kp : ∀ b o, h₂.get? b = some o → (h₂.push (kxs_mw "ValueError.__init__" x)).get? b = some o := fun b o e => Heap.get?_push_of_some _ e
  have hu : (h₂.push (kxs_mw "ValueError.__init__" x)).get? h₂.objs.size = some (kxs_mw "ValueError.__init__" x) := Heap.get?_push_at rfl rfl
  have hx₃ := kp _ _ hx₂
  have X₃ : K.In (h₂.push (kxs_mw "ValueError.__init__" x)) := X₂.keeps kp
  generalize h₂.push (kxs_mw "ValueError.__init__" x) = h₃ at *
  generalize h₂.objs.size = u at *
  refine kxs_callWith (i := "ValueError.__init__") (x := x) rfl (evalArgs_plain ?_)
  show wpAny _ _ (spliced ((false, eval (.Constant (.str msg) j a4) env) :: backTo a5 (starEach [] env))) _ _ _
  refine Calls.spliced_cons (Calls.Constant_str (Calls.spliced_nil ⟨hu, ?_⟩))
  show wpAny _ _ (call (.ref u) [.str msg _]) _ _ _
  refine wpAny_call (codeAny_of_tree ?_)
  show wpAny _ (Around.in1 (A.deeper env)) (callAny (.ref u) ⟨[.str msg _], []⟩) _ _ _
  simp only [callAny]
  refine wpAny_bind (wpAny_load hu ?_)
  simp only [kxs_mw, show (Value.type "method-wrapper" == Value.type "method" || Value.type "method-wrapper" == Value.type "builtin_function_or_method" || Value.type "method-wrapper" == Value.type "method-wrapper") = true by decide, if_true]
  refine KFB.if_so (by decide) ?_
  refine wpAny_bind (check_bound_init PySem.F.excBase_ValueError.toExcCallFacts (X₃ _ _ hC) hx₃ rfl ?_)
  refine wpAny_bind (wpAny_pure (wpAny_pure ?_))
  refine ⟨plainId_quiet PySem.F.excBase_ValueError.init.plain _, codeAny_builtin PySem.F.excBase_ValueError.initEntry ?_⟩
  refine exc_init_tree (cls := .ref C) (t0 := t0) (dv := none) (c2 := .none) (c3 := .none) (b4 := .bool false) hx₃ (by rw [sizeLine_eq]; exact (by decide : 1 ≤ 16777216)) (fun h₄ k4 hx₄ ht₄ => ?_)
  show PySem.wpAt _ _ _ (execs _ env) _ _ _
  have hxL : s.heap.objs.size ≠ x := Nat.ne_of_gt (Heap.lt_size hx)
  have hns₃ : h₄.Ns s.heap.objs.size (fun y => List.lookup y [(("self" : Str), Value.ref x), (P, v)].reverse) := ((hns.keeps k2).keeps kp).at fun o q => k4 _ o hxL q
  refine wpAt_of_wpAny (wpAny_execs_cons (plainObj_wpAny_Assign_Attribute ?_ (by rfl)))
  refine ESX.ldL (v := v) (by rw [eloc]; exact hns₃) hv2 (ESX.ldL (v := .ref x) (by rw [eloc]; exact hns₃) hv1 ?_ hknd hself (by decide)) hknd hprm hPd
  have X₄ : K.In h₄ := fun b o e => k4 b o (fun z => by rw [z, hnx] at e; cases e) (X₃ b o e)
  refine PySem.W.set_plain X₄ (ox := HandSPX.excO C h₃.objs.size) (od := none) ⟨hx₄, rfl, rfl, trivial⟩ T.cls.sa ?_
  refine HandSPX.exc_osa X₄ hx₄ hcl (show HandSPX.refsVE (.ref C :: bm) = true from hbm) rfl T.noN (fun h₅ tk₅ dx k₅ dn dne hx₅ hn₅ => ?_)
  show wpAny _ _ (execs _ _) _ _ _
  refine wpAny_execs_nil (hq h₅ tk₅ dx h₃.objs.size ⟨fun b o hb e => ?_, hx₅, ?_, dne, hn₅⟩)
  · exact k₅ b o hb (k4 b o hb (kp _ _ (k2 _ _ (k b o e))))
  · exact Nat.le_of_lt (Nat.lt_of_lt_of_le hns₃.lt dn)
end
end RV
set_option Elab.async false
set_option linter.all false
set_option maxRecDepth 100000
set_option autoImplicit false
set_option maxHeartbeats 4000000
/-! Own errors: made, raised, caught, read. -/
namespace RV
open PySem PySem.W PySem.Calls PyProof.Rows
/-- a made error -/
structure OwnMade (h h' : Heap) (e C d : Addr) (F : Str) (v : Value) : Prop where
  keep : ∀ b o, h.get? b = some o → h'.get? b = some o
  new : h.objs.size ≤ e
  obj : ∃ oe vs, h'.get? e = some oe ∧ oe.cls = .ref C ∧ oe.dict = some d ∧ oe.data = .fields vs ∧ vs[1]? = some .none
  dbig : h.objs.size ≤ d
  dne : d ≠ e
  ns : h'.Ns1 d (fun y => if y = F then some v else none)
section
variable {prog : Program} {w : World} {A : Around} {E : Value → Shared → Prop} {R : Result → Shared → Prop} {s : Shared} {K : Frag} {mg mb : Str → Option Value} {C fI : Addr} {F : Str}
theorem one_sz (v : Value) : [v].length ≤ sizeLine := by
  rw [sizeLine_eq]
  exact (by decide : 1 ≤ 16777216)
theorem own_made (T : ExF prog K C fI F) {v : Value} (X : K.In s.heap) (hg : s.heap.Ns mainGlobals mg) (hb : s.heap.Ns builtinsNs mb) (hbb : ∀ x : Str, x ≠ "__name__" → mb x = bootBuiltins x) (hlim : s.heap.NoLimit) (hroom : A.depth + 1 < recursionLimit)
    (hq : ∀ h' tk e d, OwnMade s.heap h' e C d F v → R (.ok (.ret (.ref e))) { s with heap := h', toks := tk }) :
    codeAny (model prog w) A (.call (.ref C) ⟨[v], []⟩) R s := by
  obtain ⟨nm, q, N, bs, bm, sn, sub, ab, col, dd, k0, k1, k2, k3, k5, hC, hbm⟩ := T.cls.cls
  obtain ⟨hp, g, dr, tk, os⟩ := s
  have k : ∀ b o, hp.get? b = some o → ((hp.push (kdv_tup [v])).push (HandSPX.excO C hp.objs.size)).get? b = some o := fun b o e => Heap.get?_push_of_some _ (Heap.get?_push_of_some _ e)
  have hget : ((hp.push (kdv_tup [v])).push (HandSPX.excO C hp.objs.size)).get? (hp.objs.size + 1) = some (HandSPX.excO C hp.objs.size) := by heap_get
  have hnx : K.lookup (hp.objs.size + 1) = none := by
    cases e : K.lookup (hp.objs.size + 1) with
    | none => rfl
    | some o =>
      have z : hp.get? (hp.objs.size + 1) = some o := X _ _ e
      exact absurd (Nat.lt_of_succ_lt (Heap.lt_size z)) (Nat.lt_irrefl _)
  refine HandSPX.call_own PySem.F.excBase_ValueError (fun X => HandSPX.refsVE_contains X bm hbm) (X _ _ hC) (looks_findIn X T.iC) (fun self => bind_fn X self T.tC) (one_sz v) ?_
  refine init_ok (s := ⟨(hp.push (kdv_tup [v])).push (HandSPX.excO C hp.objs.size), g, dr, tk, os⟩) T (X.keeps k) (hg.keeps k) (hb.keeps k) hbb (hlim.keeps k) hget hnx ?_ fun h' tk' dx t1 ⟨k', hx, dn, dne, hns⟩ => ?_
  · show A.depth + 1 < recursionLimit
    exact hroom
  · have old : ∀ b o, hp.get? b = some o → h'.get? b = some o := fun b o e => k' b o (Nat.ne_of_lt (Nat.lt_succ_of_lt (Heap.lt_size e))) (k b o e)
    have z : hp.objs.size + 1 + 1 ≤ dx := by
      first
        | (simpa only [Heap.size_push] using dn)
        | exact dn
        | (have q := dn; rw [Heap.size_push, Heap.size_push] at q; exact q)
    exact ⟨rfl, hq h' tk' (hp.objs.size + 1) dx ⟨old, Nat.le_succ _, ⟨_, _, hx, rfl, rfl, rfl, rfl⟩, Nat.le_trans (Nat.le_trans (Nat.le_succ _) (Nat.le_succ _)) z, dne, hns⟩⟩
end
end RV
namespace RV
open PySem PySem.Spec PyProof.Rows L2
theorem relO_fld {F : Str} {v : V} {v' : Value} (r : RelV v v') (f : Str) : RelO (List.lookup f [(F, v)]) (if f = F then some v' else none) := by
  by_cases hw : f = F
  · subst hw
    rw [if_pos rfl]
    have q : List.lookup f [(f, v)] = some v := by simp [List.lookup]
    rw [q]
    exact r
  · rw [if_neg hw]
    have qw : (f == F) = false := by simpa using hw
    have q2 : List.lookup f [(F, v)] = none := by simp [List.lookup, qw]
    rw [q2]
    trivial
section
variable {X : Cx} {C fI : Addr} {F : Str}
/-- C(e) -/
def tMkF (F : Str) (C : Addr) (ta : TA) : L2.St → Hp → XK → Prop := fun σ H Q => ta σ H fun vs H1 => ∃ v, vs = [v] ∧ ∀ d, H1 d = none → Q (.ref C) (some d) (upd H1 d (.xd [(F, v)]))
theorem pmk_own {x : Str} {a : Expr} {ta : TA} {p pos : Pos} (T : ExF X.prog X.K C fI F) (gC : X.mg x = some (.ref C)) (hr : X.A.depth + 1 < recursionLimit) (ha : PA X [a] ta) (hg : Gl X x) (hdb : (x == ("__debug__" : Str)) = false)
    (he : starEach (a :: []) X.env = (false, eval a X.env) :: starEach [] X.env) : PMk X (.Call (.Name x p) [a] [] pos) (tMkF F C ta) := by
  intro pins s σ H Q I h
  refine wpAny_Call_Name_kw (ld_glob I hg gC ?_ hdb)
  refine PySem.W.callWith_K (h₀ := X.base) I.ok.mod.kin T.cls.kC (thn (ha.run pos pins s σ H _ I h) fun us s1 hh => ?_) he rfl
  obtain ⟨vs, H1, I1, r1, v, ev, q1⟩ := hh
  subst ev
  refine ⟨I1.kIn, ?_⟩
  cases r1 with
  | cons rv rn =>
    rename_i v' us'
    cases rn
    show wpAny _ _ (call (.ref C) [v']) _ _ _
    have hlim := I1.nolimit
    obtain ⟨mb, hb1, hb2⟩ := I1.mod.blt
    have hg1 := I1.mod.glob.keeps I1.bk
    have hb1' := hb1.keeps I1.bk
    obtain ⟨hp, g, dr, tk, os⟩ := s1
    refine wpAny_call (own_made T I1.kIn hg1 hb1' hb2 hlim hr fun h' tk' e d M => ?_)
    show MkP X pins σ Q (.ref e) ⟨h', g, dr, tk', os⟩
    obtain ⟨oe, fv, hoe, hc, hd, hdat, h1⟩ := M.obj
    have hns := M.ns
    obtain ⟨G', g1, g2⟩ := restrict h' fun b => decide (b ≠ e)
    have gk : ∀ b, b ≠ e → G'.get? b = h'.get? b := fun b hb => g1 b (decide_eq_true hb)
    have ge : G'.get? e = none := g2 e (by simp)
    have old : ∀ b o, hp.get? b = some o → G'.get? b = some o := fun b o q => (gk b (Nat.ne_of_lt (Nat.lt_of_lt_of_le (Heap.lt_size q) M.new))).trans (M.keep b o q)
    have ob : ObjOk X.prog X.w (upd H1 d (.xd [(F, v)])) G' d (.xd [(F, v)]) :=
      ⟨_, hns.at (fun o q => (gk d M.dne).trans q), fun f => relO_fld rv f⟩
    have J : Inv X pins σ (upd H1 d (.xd [(F, v)])) ⟨G', g, dr, tk', os⟩ := I1.laid (t' := tk') old M.dbig ob
    refine ⟨e, oe, fv, ⟨G', g, dr, tk', os⟩, _, .ref C, some d, rfl, J, fun b o q => ?_, ge, hoe, ⟨hc, hd⟩, hdat, h1, ?_, rfl, I1.bare, raises_own T.cls.exC T.cls.tyC, q1 d (I1.hok.fresh M.dbig)⟩
    · by_cases hb : b = e
      · have q' : G'.get? b = some o := q
        rw [hb, ge] at q'
        cases q'
      · exact (gk b hb).symm.trans q
    · rw [upd_ne (Ne.symm M.dne)]
      exact I1.hok.fresh M.new
/-- n.F, n the error that the suite holds (at a; its class cls, its dict d) -/
def tFld (F : Str) (C a : Addr) (cls : Value) (d : Option Addr) (te : TE) : TE := fun σ H Q => te σ H fun x H1 => x = .ref a ∧ cls = .ref C ∧ ∃ (dd : Addr) (v : V), d = some dd ∧ H1 dd = some (.xd [(F, v)]) ∧ Q v H1
theorem pe_fld {a : Addr} {oe : Obj} {cls : Value} {d : Option Addr} {pn : List (Addr × Obj)} {e : Expr} {te : TE} {pos : Pos} (T : ExF X.prog X.K C fI F) (hz : Zc cls d oe) (hf : ∃ vs, oe.data = .fields vs) (he : PE (X.suite a ((a, oe) :: pn)) e te)
    (hb : attributeBase e F X.env (eval e X.env) = eval e X.env) : PE (X.suite a ((a, oe) :: pn)) (.Attribute e F pos) (tFld F C a cls d te) := by
  refine ⟨fun pins s σ H Q I h => ?_⟩
  refine attr_of hb (thn (he.run pins s σ H _ I h) fun u s1 hh => ?_)
  obtain ⟨x, H1, I1, rx, ex, ec, dd, v, ed, ea, q⟩ := hh
  subst ex
  obtain rfl : u = Value.ref a := rx
  subst ec
  subst ed
  obtain ⟨ha, _⟩ := I1.pin (a, oe) (List.mem_append_left _ List.mem_cons_self)
  obtain ⟨vs, hd⟩ := hf
  have hx : ObjOk X.prog X.w H1 s1.heap dd (.xd [(F, v)]) := I1.hok dd _ ea
  obtain ⟨mA, hns, hr⟩ := hx
  obtain ⟨od, ho, hl⟩ := lookIn_ns hns
  have l : List.lookup F [(F, v)] = some v := by simp [List.lookup]
  obtain ⟨u, hu, ru⟩ := RelO.some_of (v := v) (o := mA F) (by rw [← l]; exact hr F)
  have J : PySem.W.InstAt s1.heap a oe C (some od) := ⟨ha, hz.1, by unfold PySem.W.notCls; rw [hd] <;> rfl, by rw [hz.2]; exact ho⟩
  exact HandSPX.exc_get I1.kIn J T.ga T.gg T.cls.exC (PySem.W.findObj_own T.hdC T.noN rfl (by rw [hl, hu])) (handed_of ru) ⟨v, H1, I1.tok _, ru, q⟩
end
end RV
set_option Elab.async false
set_option linter.all false
set_option maxRecDepth 100000
set_option autoImplicit false
set_option maxHeartbeats 1000000
/-! Part 4: the core text against the program's tree; readings; calls of the text's defs. -/
namespace RV
open PySem PySem.Spec PyProof.Rows L2

/-- what the module's names stand for -/
structure Tab where
  fns : List Str
  free : List Str
  bfn : List (Str × String)
  cons : List (Str × D)
  exc : List (Str × Str) := []

/-! ### the check -/
def visB (S : Scope) (x : Str) : Bool := match S.names.lookup x with
  | some .local => true
  | some .cell => true
  | some .free => true
  | _ => false
def locB (B : Scope) (x : Str) : Bool := match B.names.lookup x with
  | some .local => true
  | some .cell => true
  | _ => false
def glB (S : Scope) (x : Str) : Bool := decide (S.names.lookup x = some .globalImplicit)
def nmB (x : Str) : Bool := !(x == ("__debug__" : Str)) && (!(x == ("__classdict__" : Str)) && decide (x ≠ "__name__"))
def litB : D → Const → Bool
  | .non, .none => true
  | .bl a, .bool b => decide (a = b)
  | .int a, .int b => decide (a = b)
  | .str a, .str b => decide (a = b)
  | _, _ => false
def plainT : Expr → Bool
  | .UnaryOp .Not _ _ => false
  | .BoolOp .. => false
  | .IfExp .. => false
  | .Compare .. => false
  | _ => true
def unstar : Expr → Bool
  | .Starred .. => false
  | _ => true
def unslice : Expr → Bool
  | .Slice .. => false
  | _ => true
def uncall : Expr → Bool
  | .Call .. => false
  | _ => true
def unset : Expr → Bool
  | .Set .. => false
  | _ => true
def uncomp : Expr → Bool
  | .ListComp .. => false
  | .SetComp .. => false
  | .DictComp .. => false
  | _ => true
def bltN : Blt → Str
  | .len => "len" | .abs => "abs" | .int => "int" | .str => "str" | .gcd => "gcd" | .repr => "repr" | .tup => "tuple" | .list => "list" | .ord => "ord" | .min2 => "min" | .max2 => "max" | .comb => "comb"
def bltImp : Blt → Bool
  | .gcd => true
  | .comb => true
  | _ => false
def bltId : Blt → String
  | .gcd => "math.gcd"
  | _ => "math.comb"
def bltTN : BltT → Str
  | .tup => "tuple" | .all => "all" | .any => "any" | .sum => "sum" | .max => "max" | .min => "min" | .len => "len"
def tyS : Ty → Str
  | .int => "int" | .bool => "bool" | .str => "str" | .tup => "tuple" | .lst => "list"
def bltB (T : Tab) (S : Scope) (b : Blt) (x : Str) : Bool := decide (x = bltN b) && (glB S x && (nmB x && (if bltImp b then decide ((x, bltId b) ∈ T.bfn) else decide (x ∈ T.free))))
def bltTB (T : Tab) (S : Scope) (b : BltT) (x : Str) : Bool := decide (x = bltTN b) && (glB S x && (nmB x && decide (x ∈ T.free)))
mutual
def Tg.slots : Tg → List Nat
  | .name i => [i]
  | .tup ts => ts.slots
  | .sub _ _ => []
def Tgs.slots : Tgs → List Nat
  | .nil => []
  | .cons t ts => t.slots ++ ts.slots
end
mutual
def okE (T : Tab) (N : List Str) : Scope → Scope → CE → Expr → Bool
  | S, _, .var i, e => (match e with
    | .Name x _ => decide (N[i]? = some x) && (visB S x && nmB x)
    | _ => false)
  | _, _, .lit d, e => (match e with
    | .Constant c _ _ => litB d c
    | _ => false)
  | S, _, .glob j d, e => (match e with
    | .Name x _ => decide (T.cons[j]? = some (x, d)) && (glB S x && nmB x)
    | _ => false)
  | S, _, .fnv j, e => (match e with
    | .Name x _ => decide (T.fns[j]? = some x) && (glB S x && nmB x)
    | _ => false)
  | S, B, .tup es, e => (match e with
    | .Tuple xs _ _ => okEs T N S B es xs
    | _ => false)
  | S, B, .op2 o a b, e => (match e with
    | .BinOp x p y _ => decide (o = p) && (okE T N S B a x && okE T N S B b y)
    | _ => false)
  | S, B, .neg a, e => (match e with
    | .UnaryOp .USub x _ => okE T N S B a x
    | _ => false)
  | S, B, .inv a, e => (match e with
    | .UnaryOp .Invert x _ => okE T N S B a x
    | _ => false)
  | S, B, .cmp o a b, e => (match e with
    | .Compare x [p] [y] _ => decide (o = p) && (!behindInMarks p y && (okE T N S B a x && okE T N S B b y))
    | _ => false)
  | S, B, .cmp2 o o' a b c, e => (match e with
    | .Compare x [p, p'] [y, z] _ => decide (o = p) && (decide (o' = p') && (!lastMarks [p, p'] [y, z] && (okE T N S B a x && (okE T N S B b y && okE T N S B c z))))
    | _ => false)
  | S, B, .and a b, e => (match e with
    | .BoolOp .And (x :: y :: []) _ => okE T N S B a x && okE T N S B b y
    | .BoolOp .And (x :: y :: z :: r) p => okE T N S B a x && okE T N S B b (.BoolOp .And (y :: z :: r) p)
    | _ => false)
  | S, B, .or a b, e => (match e with
    | .BoolOp .Or (x :: y :: []) _ => okE T N S B a x && okE T N S B b y
    | .BoolOp .Or (x :: y :: z :: r) p => okE T N S B a x && okE T N S B b (.BoolOp .Or (y :: z :: r) p)
    | _ => false)
  | S, B, .not a, e => (match e with
    | .UnaryOp .Not x _ => okE T N S B a x
    | _ => false)
  | S, B, .ite t a b, e => (match e with
    | .IfExp z x y _ => okE T N S B t z && (okE T N S B a x && okE T N S B b y)
    | _ => false)
  | S, B, .call f es, e => (match e with
    | .Call (.Name x _) xs [] _ => decide (T.fns[f]? = some x) && (glB S x && (nmB x && okEs T N S B es xs))
    | _ => false)
  | S, B, .callv v es, e => false
  | S, B, .isi a t, e => (match e with
    | .Call (.Name x _) [y, .Name z _] [] _ => decide (x = "isinstance") && (decide (z = tyS t) && (glB S x && (glB S z && (decide (x ∈ T.free) && (decide (z ∈ T.free) && (unstar y && okE T N S B a y))))))
    | _ => false)
  | S, B, .blt b es, e => (match e with
    | .Call (.Name x _) (y :: ys) [] _ => bltB T S b x && okEs T N S B es (y :: ys)
    | _ => false)
  | S, B, .bltT b t, e => (match e with
    | .Call (.Name x _) [y] [] _ => bltTB T S b x && (unstar y && okT T N S B t y)
    | _ => false)
  | S, B, .join s t, e => (match e with
    | .Call (.Attribute x m q) [y] [] p => decide (m = "join") && (uncall x && (unstar y && (decide ((q.endLine == p.line) = true) && (okE T N S B s x && okT T N S B t y))))
    | _ => false)
  | S, B, .sub a i, e => (match e with
    | .Subscript x y _ => unslice y && (okE T N S B a x && okE T N S B i y)
    | _ => false)
  | S, B, .slice a lo hi, e => (match e with
    | .Subscript x (.Slice l u none _) _ => okE T N S B a x && (okO T N S B lo l && okO T N S B hi u)
    | _ => false)
  | S, B, .alloc t, e => okT T N S B t e
  | S, B, .meth m o es, e => (match e with
    | .Call (.Attribute x n q) [y] [] p => decide (m = .append) && (decide (n = "append") && (uncall x && (decide ((q.endLine == p.line) = true) && (okE T N S B o x && okEs T N S B es [y]))))
    | _ => false)
def okEs (T : Tab) (N : List Str) : Scope → Scope → CEs → List Expr → Bool
  | _, _, .nil, xs => xs.isEmpty
  | S, B, .cons e es, xs => (match xs with
    | x :: r => unstar x && (okE T N S B e x && okEs T N S B es r)
    | _ => false)
def okO (T : Tab) (N : List Str) : Scope → Scope → CO → Option Expr → Bool
  | _, _, .none, x => x.isNone
  | S, B, .some e, x => (match x with
    | some y => okE T N S B e y
    | none => false)
def okT (T : Tab) (N : List Str) : Scope → Scope → CT → Expr → Bool
  | S, B, .lst es, e => (match e with
    | .List xs _ => okEs T N S B es xs
    | _ => false)
  | S, B, .lc own tg it ifs el, e => (match e with
    | .ListComp x [⟨t, i, fs, 0⟩] sc _ => (unset i && (okI T N S B it i && blkC N S sc (own.map fun j => (N.getD j "", j)))) &&
        (okG T N (relS sc S) sc tg t && (decide (∀ j ∈ tg.slots, j ∈ own) && (okE T N (relS sc S) sc el x && okFs T N (relS sc S) sc ifs fs)))
    | _ => false)
def okFs (T : Tab) (N : List Str) : Scope → Scope → CO → List Expr → Bool
  | _, _, .none, x => x.isEmpty
  | S, B, .some e, x => (match x with
    | [y] => okE T N S B e y
    | _ => false)
def okI (T : Tab) (N : List Str) : Scope → Scope → CI → Expr → Bool
  | S, B, .val a, e => okE T N S B a e
  | S, B, .rng1 a, e => (match e with
    | .Call (.Name x _) [y] [] _ => decide (x = "range") && (glB S x && (decide (x ∈ T.free) && (unstar y && okE T N S B a y)))
    | _ => false)
  | S, B, .rng2 a b, e => (match e with
    | .Call (.Name x _) [y, z] [] _ => decide (x = "range") && (glB S x && (decide (x ∈ T.free) && (unstar y && (unstar z && (okE T N S B a y && okE T N S B b z)))))
    | _ => false)
  | S, B, .tmp t, e => okT T N S B t e
def okG (T : Tab) (N : List Str) : Scope → Scope → Tg → Expr → Bool
  | S, B, .name i, e => (match e with
    | .Name x _ => decide (N[i]? = some x) && locB B x
    | _ => false)
  | S, B, .tup ts, e => (match e with
    | .Tuple xs _ _ => okGs T N S B ts xs
    | _ => false)
  | S, B, .sub o i, e => (match e with
    | .Subscript x y _ => unslice y && (okE T N S B o x && okE T N S B i y)
    | _ => false)
def okGs (T : Tab) (N : List Str) : Scope → Scope → Tgs → List Expr → Bool
  | _, _, .nil, xs => xs.isEmpty
  | S, B, .cons t ts, xs => (match xs with
    | x :: r => unstar x && (okG T N S B t x && okGs T N S B ts r)
    | _ => false)
end

/-! ### readings -/
section
variable (G : Wd) (call : Call) (W : WX)
def xk (W : WX) (σ : L2.St) : XK := fun c d H => W c d σ H
def rdE (c : CE) : TE := fun σ H Q => ∃ ι env ah, RH G ι ah H ∧ RS G ι H env σ ∧ Pst G (rD G) ι H (evE call c env ah) Q (xk W σ)
def rdEs (c : CEs) : TA := fun σ H Q => ∃ ι env ah, RH G ι ah H ∧ RS G ι H env σ ∧ Pst G (rDs G) ι H (evEs call c env ah) Q (xk W σ)
def rdB (c : CE) : TT := fun σ H Q => ∃ ι env ah, RH G ι ah H ∧ RS G ι H env σ ∧ Pst G (rX Bool) ι H (evB call c env ah) Q (xk W σ)
def rdFs (c : CO) : TT := fun σ H Q => ∃ ι env ah, RH G ι ah H ∧ RS G ι H env σ ∧ Pst G (rX Bool) ι H (evF call c env ah) Q (xk W σ)
def rdO (c : CO) : TO := fun σ H Q => ∃ ι env ah, RH G ι ah H ∧ RS G ι H env σ ∧ Pst G (rX (Option Int)) ι H (evO call c env ah) Q (xk W σ)
def rdT (c : CT) : TE := fun σ H Q => ∃ ι env ah, RH G ι ah H ∧ RS G ι H env σ ∧ Pst G (rL G) ι H (evT call c env ah) Q (xk W σ)
def rdI (c : CI) : TI := fun σ H Q => ∃ ι env ah, RH G ι ah H ∧ RS G ι H env σ ∧ Pst G (RV.rI G) ι H (evI call c env ah) Q (xk W σ)
/-- slots outside own stay -/
def SameSl (own : List Nat) (σ σ' : L2.St) : Prop := σ'.length = σ.length ∧ ∀ j : Nat, j ∉ own → σ'[j]? = σ[j]?
def rEnS (own : List Nat) (σ : L2.St) : Rl En L2.St := ⟨fun _ _ ι' H' env σ' => RS G ι' H' env σ' ∧ SameSl own σ σ', fun _ _ _ _ _ _ _ _ _ _ h => h⟩
def xall (W : WX) : XK := fun c d H => ∀ σ, W c d σ H
def rdG (c : Tg) : TG := fun v σ H Q => ∃ ι env ah x, RH G ι ah H ∧ RS G ι H env σ ∧ DV G ι H x v ∧ Pst G (rEnS G c.slots σ) ι H (evG call c x env ah) Q (xall W)
def rdGs (c : Tgs) : TGs := fun vs σ H Q => ∃ ι env ah xs, RH G ι ah H ∧ RS G ι H env σ ∧ DVs G ι H xs vs ∧ Pst G (rEnS G c.slots σ) ι H (evGs call c xs env ah) Q (xall W)
end
section
variable {X : Cx}
theorem _root_.L2.PE.le {e : Expr} {t t' : TE} (h : PE X e t) (k : ∀ σ H Q, t' σ H Q → t σ H Q) : PE X e t' := ⟨fun pins s σ H Q I q => h.run pins s σ H Q I (k _ _ _ q)⟩
theorem _root_.L2.PT.le {e : Expr} {t t' : TT} (h : PT X e t) (k : ∀ σ H Q, t' σ H Q → t σ H Q) : PT X e t' := ⟨fun pins s σ H Q I q => h.run pins s σ H Q I (k _ _ _ q)⟩
theorem _root_.L2.PW.le {e : Expr} {t t' : TT} (h : PW X e t) (k : ∀ σ H Q, t' σ H Q → t σ H Q) : PW X e t' := ⟨fun w pins s σ H Q I q => h.run w pins s σ H Q I (k _ _ _ q)⟩
theorem _root_.L2.PTs.le {e : List Expr} {t t' : TT} (h : PTs X e t) (k : ∀ σ H Q, t' σ H Q → t σ H Q) : PTs X e t' := ⟨fun pins s σ H Q I q => h.run pins s σ H Q I (k _ _ _ q)⟩
theorem _root_.L2.PA.le {e : List Expr} {t t' : TA} (h : PA X e t) (k : ∀ σ H Q, t' σ H Q → t σ H Q) : PA X e t' := ⟨fun p pins s σ H Q I q => h.run p pins s σ H Q I (k _ _ _ q)⟩
theorem _root_.L2.PO.le {e : Option Expr} {t t' : TO} (h : PO X e t) (k : ∀ σ H Q, t' σ H Q → t σ H Q) : PO X e t' := ⟨fun pins s σ H Q I q => h.run pins s σ H Q I (k _ _ _ q)⟩
theorem _root_.L2.PI.le {tg e : Expr} {t t' : TI} (h : PI X tg e t) (k : ∀ σ H Q, t' σ H Q → t σ H Q) : PI X tg e t' := ⟨fun pins s σ H Q I q => h.run pins s σ H Q I (k _ _ _ q)⟩
theorem _root_.L2.PG.le {e : Expr} {t t' : TG} (h : PG X e t) (k : ∀ v σ H Q, t' v σ H Q → t v σ H Q) : PG X e t' := ⟨fun pins s σ H v u Q I r q => h.run pins s σ H v u Q I r (k _ _ _ _ q)⟩
theorem _root_.L2.PGs.le {e : List Expr} {t t' : TGs} (h : PGs X e t) (k : ∀ v σ H Q, t' v σ H Q → t v σ H Q) : PGs X e t' := ⟨fun pins s σ H v u Q I r q => h.run pins s σ H v u Q I r (k _ _ _ _ q)⟩
theorem _root_.L2.PS.le {e : Stmt} {t t' : TS} (h : PS X e t) (k : ∀ D σ H, t' D σ H → t D σ H) : PS X e t' := ⟨fun pins s σ H D I q => h.run pins s σ H D I (k _ _ _ q)⟩
theorem _root_.L2.PSs.le {e : List Stmt} {t t' : TS} (h : PSs X e t) (k : ∀ D σ H, t' D σ H → t D σ H) : PSs X e t' := ⟨fun pins s σ H D I q => h.run pins s σ H D I (k _ _ _ q)⟩
end

/-! ### side conditions of the layer's rules -/
theorem star_cons {e : Expr} {es : List Expr} {env : PySem.Env} (h : unstar e = true) : starEach (e :: es) env = (false, eval e env) :: starEach es env := by
  cases e <;> first | rfl | cases h
theorem star_none {env : PySem.Env} {pos : Pos} : ∀ {es : List Expr}, (∀ e ∈ es, unstar e = true) → (backTo pos (starEach es env)).any (·.1) = false
  | [], _ => rfl
  | e :: es, h => by
    rw [star_cons (h e List.mem_cons_self)]
    show (false || (backTo pos (starEach es env)).any (·.1)) = false
    rw [star_none fun x hx => h x (List.mem_cons_of_mem _ hx)]
    rfl
theorem tree_plain {e : Expr} {env : PySem.Env} (h : plainT e = true) (whole : Sem Value) : isTrue e env whole = (do let v ← whole; standAt e.pos; holding [v] (PySem.truthy v)) := by
  cases e with
  | UnaryOp op _ _ => cases op <;> first | rfl | cases h
  | _ => first | rfl | cases h
theorem plain_ix {e : Expr} (h : unslice e = true) : L2.PlainIx e := by
  intro o i
  cases e <;> first | rfl | cases h
theorem base_plain {o : Expr} {n : Str} {env : PySem.Env} (h : uncall o = true) : attributeBase o n env (eval o env) = eval o env := by
  cases o <;> first | rfl | cases h
theorem set_plain {e : Expr} {env : PySem.Env} (h : unset e = true) (x : Value) : foldedSetIterable e env x = pure x := by
  cases e <;> first | rfl | cases h
theorem nm_ok {x : Str} (h : nmB x = true) : (x == ("__debug__" : Str)) = false ∧ (x == ("__classdict__" : Str)) = false ∧ x ≠ "__name__" := by
  unfold nmB at h
  simp only [Bool.and_eq_true, Bool.not_eq_true', decide_eq_true_eq] at h
  exact h
theorem vis_ok {S : Scope} {x : Str} (h : visB S x = true) : Vis S x := by
  unfold visB at h
  split at h
  · exact .inl (by assumption)
  · exact .inr (.inl (by assumption))
  · exact .inr (.inr (by assumption))
  · cases h
theorem loc_ok {S : Scope} {x : Str} (h : locB S x = true) : S.names.lookup x = some .local ∨ S.names.lookup x = some .cell := by
  unfold locB at h
  split at h
  · exact .inl (by assumption)
  · exact .inr (by assumption)
  · cases h

/-! ### the text's defs -/
/-- what a def promises, by the evaluator -/
def spF (G : Wd) (P : List Fn) (k : Nat) (j : Nat) (n : Nat) : Sp := fun vs H Q E => vs.length = n ∧ ∃ ι ah ds, RH G ι ah H ∧ DVs G ι H ds vs ∧ Pst G (rD G) ι H (evC P k j ds ah) Q E
structure FnG (P : Program) (w : World) (K : PySem.W.Frag) (mg : Str → Option Value) (base : Heap) (k : Nat) (f : Addr) (fd : FuncData) (ps : List Str) (sp : Sp) : Prop where
  len : ∀ vs H Q E, sp vs H Q E → vs.length = ps.length
  run : ∀ (A : Around) (outer : List PySem.Env) (s : Shared) (H : Hp) (args : Args) (us : List Value) (vs : List V) (Q : VK) (E : XK), Room k A → A.guards = some [] → Env0 P w K mg base A outer s H → BindsTo s fd args (ps.zip us) → Vals vs us → sp vs H Q E →
    codeAny (model P w) A (.call (.ref f) args) (CR (CX P w) outer P w H s Q E) s
theorem FnG.mono {P : Program} {w : World} {K : PySem.W.Frag} {mg : Str → Option Value} {base : Heap} {j k : Nat} {f : Addr} {fd : FuncData} {ps : List Str} {sp : Sp} (F : FnG P w K mg base j f fd ps sp) (h : j ≤ k) : FnG P w K mg base k f fd ps sp :=
  ⟨F.len, fun A outer s H args us vs Q E hr => F.run A outer s H args us vs Q E (hr.mono h)⟩
/-- what the head gives of the text, with every def's promise at the level k -/
structure Fa (G : Wd) (T : Tab) (P : List Fn) (k : Nat) : Prop where
  fn : ∀ (j : Nat) (x : Str), T.fns[j]? = some x → G.mg x = some (.ref (G.fa j)) ∧ PySem.W.keepIn G.K (.ref (G.fa j)) = true ∧ ∃ (fd : FuncData) (ps : List Str) (fn : Fn), P[j]? = some fn ∧ ps.length = fn.np ∧ Binds G.K fd ps [] ∧ FnG G.P G.w G.K G.mg G.base k (G.fa j) fd ps (spF G P k j fn.np)
  free : ∀ x, x ∈ T.free → G.mg x = none
  con : ∀ (j : Nat) (x : Str) (d : D), T.cons[j]? = some (x, d) → ∃ u v, G.mg x = some u ∧ RelV v u ∧ ∀ ι H, DV G ι H d v
  bfn : ∀ x id, (x, id) ∈ T.bfn → G.mg x = some (.builtin id)
  exc : ∀ (c : Nat) (x f : Str), T.exc[c]? = some (x, f) → G.mg x = some (.ref (G.ca c)) ∧ G.fld c = f ∧ ∃ fI, ExF G.P G.K (G.ca c) fI f
  exm : ∀ c c', c < T.exc.length → c' < T.exc.length → PySem.W.exmOne G.K (.ref (G.ca c')) (.ref (G.ca c)) = some (decide (c' = c))

structure Gd2 (G : Wd) (S B : Scope) (N : List Str) (k : Nat) (X : Cx) : Prop where
  gd : Gd G S N k X
  st : ∀ x, (B.names.lookup x = some .local ∨ B.names.lookup x = some .cell) → Loc X.env.scope x ∧ (X.fn x = true ∨ X.env.scope.names.lookup x = some .local)
section
variable {G : Wd} {S B : Scope} {N : List Str} {k : Nat} {X : Cx} {W : WX}
theorem gl_ok (g : Gd G S N k X) {x : Str} (h : glB S x = true) : Gl X x := by
  unfold glB at h
  unfold Gl Env.kindOf
  rw [g.sc]
  exact of_decide_eq_true h
theorem run_G (g : Gd G S N k X) (tk : Takes X W) {pins : List (Addr × Obj)} {σ : L2.St} {H : Hp} {s : Shared} {f : Addr} {fd : FuncData} {ps : List Str} {sp : Sp} {Q : VK} {us : List Value} {vs : List V}
    (F : FnG G.P G.w G.K G.mg G.base k f fd ps sp) (hb : Binds G.K fd ps []) (I : Inv X pins σ H s) (r : Vals vs us) (h : sp vs H Q (xk W σ)) : wpAny (model X.prog X.w) X.A (call (.ref f) us) (EP X pins σ Q) X.xe s := by
  have F' : FnG X.prog X.w X.K X.mg X.base k f fd ps sp := by
    rw [g.prog, g.w, g.K, g.mg, g.base]
    exact F
  have b' : Binds X.K fd ps [] := by
    rw [g.K]
    exact hb
  have hl : us.length = ps.length := by
    rw [← r.length]
    exact F.len _ _ _ _ h
  have bt := b' s us I.kIn (by rw [List.append_nil]; exact hl)
  rw [List.append_nil] at bt
  refine wpAny_call (codeAny_mono (F'.run X.A X.stack s H ⟨us, []⟩ us vs Q (xk W σ) g.room g.gd I.env0 bt r h) fun r s' hq => ?_)
  cases r with
  | error e => exact tk e s' (XE.of_call I (fun _ _ _ z => z) hq)
  | ok fl =>
    cases fl with
    | ret u => exact I.after hq
    | next => exact False.elim hq
    | brk => exact False.elim hq
    | cont => exact False.elim hq
/-- f(e, ..), f() -/
theorem pe_callG (g : Gd G S N k X) (tk : Takes X W) {x : Str} {p pos : Pos} {e : Expr} {es : List Expr} {t : TA} {f : Addr} {fd : FuncData} {ps : List Str} {sp : Sp} (F : FnG G.P G.w G.K G.mg G.base k f fd ps sp) (hb : Binds G.K fd ps []) (hg : Gl X x)
    (hm : X.mg x = some (.ref f)) (hk : PySem.W.keepIn X.K (.ref f) = true) (ha : PA X (e :: es) t) (h1 : unstar e = true) (hun : ∀ e ∈ es, unstar e = true) (hdb : (x == ("__debug__" : Str)) = false) :
    PE X (.Call (.Name x p) (e :: es) [] pos) (fun σ H Q => t σ H fun vs H1 => sp vs H1 Q (xk W σ)) := by
  refine ⟨fun pins s σ H Q I h => ?_⟩
  refine wpAny_Call_Name_kw (ld_glob I hg hm ?_ hdb)
  refine PySem.W.callWith_K (h₀ := X.base) I.ok.mod.kin hk (thn (ha.run pos pins s σ H _ I h) fun us s1 ⟨vs, H1, I1, r, q⟩ => ⟨I1.kIn, ?_⟩) (star_cons h1) (star_none hun)
  exact run_G g tk F hb I1 r q
theorem pe_callG0 (g : Gd G S N k X) (tk : Takes X W) {x : Str} {p pos : Pos} {f : Addr} {fd : FuncData} {ps : List Str} {sp : Sp} (F : FnG G.P G.w G.K G.mg G.base k f fd ps sp) (hb : Binds G.K fd ps []) (hg : Gl X x)
    (hm : X.mg x = some (.ref f)) (hk : PySem.W.keepIn X.K (.ref f) = true) (hdb : (x == ("__debug__" : Str)) = false) : PE X (.Call (.Name x p) [] [] pos) (fun σ H Q => sp [] H Q (xk W σ)) := by
  refine ⟨fun pins s σ H Q I h => ?_⟩
  refine wpAny_Call_Name_kw (ld_glob I hg hm ?_ hdb)
  exact PySem.W.callWith_K0 I.kIn hk (run_G (us := []) g tk F hb I .nil h)
end
end RV
set_option Elab.async false
set_option linter.all false
set_option maxRecDepth 100000
set_option autoImplicit false
set_option maxHeartbeats 2000000
/-! Part 5: a core expression that is the program's reads as the evaluator says. -/
namespace RV
open PySem PySem.Spec PyProof.Rows L2

theorem b2 {a b : Bool} (h : (a && b) = true) : a = true ∧ b = true := Bool.and_eq_true_iff.mp h
theorem evB_and (call : Call) (a b : CE) (env : En) (h : AH) : evB call (.and a b) env h = (evB call a env h).bind fun k h1 => if k then evB call b env h1 else .ok false h1 := by
  simp only [evB, evE]
  cases evE call a env h with
  | ok x h1 =>
    simp only [R.bind_ok]
    cases q : truthy x h1 with
    | none => rfl
    | some k => cases k <;> simp [ofO, q]
  | exc c v h1 => rfl
  | bad => rfl
theorem evB_or (call : Call) (a b : CE) (env : En) (h : AH) : evB call (.or a b) env h = (evB call a env h).bind fun k h1 => if k then .ok true h1 else evB call b env h1 := by
  simp only [evB, evE]
  cases evE call a env h with
  | ok x h1 =>
    simp only [R.bind_ok]
    cases q : truthy x h1 with
    | none => rfl
    | some k => cases k <;> simp [ofO, q]
  | exc c v h1 => rfl
  | bad => rfl
theorem evB_not (call : Call) (a : CE) (env : En) (h : AH) : evB call (.not a) env h = (evB call a env h).bind fun k h1 => .ok (!k) h1 := by
  simp only [evB, evE]
  cases evE call a env h with
  | ok x h1 =>
    simp only [R.bind_ok]
    cases q : truthy x h1 with
    | none => rfl
    | some k => rfl
  | exc c v h1 => rfl
  | bad => rfl
theorem evE_not (call : Call) (a : CE) (env : En) (h : AH) : evE call (.not a) env h = (evB call a env h).bind fun k h1 => .ok (.bl (!k)) h1 := by
  simp only [evB, evE, R.bind_assoc]
theorem evE_ite (call : Call) (t a b : CE) (env : En) (h : AH) : evE call (.ite t a b) env h = (evB call t env h).bind fun k h1 => if k then evE call a env h1 else evE call b env h1 := by
  simp only [evB, evE, R.bind_assoc]
theorem evB_ite (call : Call) (t a b : CE) (env : En) (h : AH) : evB call (.ite t a b) env h = (evB call t env h).bind fun k h1 => if k then evB call a env h1 else evB call b env h1 := by
  unfold evB
  rw [evE_ite]
  unfold evB
  rw [R.bind_assoc]
  congr 1
  funext k h1
  cases k <;> rfl
section
variable {α β : Type} {G : Wd} {rel : Rl α β} {ι : List Addr} {H : Hp} {Q : β → Hp → Prop} {E : XK}
theorem Pst.ofO {γ : Type} {o : Option γ} {h : AH} {f : γ → AH → R α} (p : Pst G rel ι H ((RV.ofO o h).bind f) Q E) : ∃ a, o = some a ∧ Pst G rel ι H (f a h) Q E := by
  cases o with
  | none => exact p.elim
  | some a => exact ⟨a, rfl, p⟩
theorem Pst.ofO' {o : Option α} {h : AH} (p : Pst G rel ι H (RV.ofO o h) Q E) : ∃ a, o = some a ∧ Pst G rel ι H (.ok a h) Q E := by
  cases o with
  | none => exact p.elim
  | some a => exact ⟨a, rfl, p⟩
end
theorem evE_cmp_bl {call : Call} {o : CmpOp} {a b : CE} {env : En} {h h' : AH} {d : D} (e : evE call (.cmp o a b) env h = .ok d h') : ∃ k, d = .bl k := by
  simp only [evE] at e
  cases h1 : evE call a env h with
  | ok x g1 =>
    rw [h1, R.bind_ok] at e
    cases h2 : evE call b env g1 with
    | ok y g2 =>
      rw [h2, R.bind_ok] at e
      cases q : cmpP o x y g2 with
      | none => rw [q] at e; cases e
      | some k => rw [q] at e; cases e; exact ⟨k, rfl⟩
    | exc c v g => rw [h2] at e; cases e
    | bad => rw [h2] at e; cases e
  | exc c v g => rw [h1] at e; cases e
  | bad => rw [h1] at e; cases e
theorem evE_cmp2_bl {call : Call} {o o' : CmpOp} {a b c : CE} {env : En} {h h' : AH} {d : D} (e : evE call (.cmp2 o o' a b c) env h = .ok d h') : ∃ k, d = .bl k := by
  simp only [evE] at e
  cases h1 : evE call a env h with
  | ok x g1 =>
    rw [h1, R.bind_ok] at e
    cases h2 : evE call b env g1 with
    | ok y g2 =>
      rw [h2, R.bind_ok] at e
      cases q : cmpP o x y g2 with
      | none => rw [q] at e; cases e
      | some k =>
        rw [q] at e
        simp only [ofO, R.bind_ok] at e
        cases k with
        | false => simp at e; exact ⟨_, e.1.symm⟩
        | true =>
          simp only [if_true] at e
          cases h3 : evE call c env g2 with
          | ok z g3 =>
            rw [h3, R.bind_ok] at e
            cases q' : cmpP o' y z g3 with
            | none => rw [q'] at e; cases e
            | some k => rw [q'] at e; cases e; exact ⟨k, rfl⟩
          | exc c v g => rw [h3] at e; cases e
          | bad => rw [h3] at e; cases e
    | exc c v g => rw [h2] at e; cases e
    | bad => rw [h2] at e; cases e
  | exc c v g => rw [h1] at e; cases e
  | bad => rw [h1] at e; cases e
section
variable {G : Wd} {T : Tab} {P : List Fn} {S B : Scope} {N : List Str} {k : Nat} {X : Cx} {W : WX} {call : Call}
theorem toBl {c : CE} (hb : ∀ env h d h', evE call c env h = .ok d h' → ∃ k, d = .bl k) {σ : L2.St} {H : Hp} {Q : Bool → Hp → Prop} (h : rdB G call W c σ H Q) : rdE G call W c σ H (fun x H' => ∃ k, x = .bl k ∧ Q k H') := by
  obtain ⟨ι, env, ah, rh, rs, hp⟩ := h
  refine ⟨ι, env, ah, rh, rs, hp.step' fun d h1 ι1 H1 v e e1 rh1 v1 hp1 => ?_⟩
  obtain ⟨c, rfl⟩ := hb _ _ _ _ e
  exact ⟨c, v1, hp1 ι1 H1 c .refl rh1 rfl⟩
theorem ptOf (g : Gd G S N k X) {c : CE} {e : Expr} (hE : PE X e (rdE G call W c)) (hp : plainT e = true) : PT X e (rdB G call W c) := by
  refine (pt_truth hE (tree_plain hp)).le fun σ H Q ⟨ι, env, ah, rh, rs, h⟩ => ⟨ι, env, ah, rh, rs, h.step (rel := rD G) fun d h1 ι1 H1 v e1 rh1 v1 h2 => ?_⟩
  obtain ⟨b, hb, h3⟩ := h2.ofO'
  refine ⟨b, ?_, h3 ι1 H1 b .refl rh1 rfl⟩
  rw [g.K]
  exact tru_of rh1 v1 hb
theorem okEs_star : ∀ {es : CEs} {xs : List Expr}, okEs T N S B es xs = true → ∀ x ∈ xs, unstar x = true
  | .nil, xs, h, x, hx => by
    cases xs with
    | nil => cases hx
    | cons _ _ => cases h
  | .cons e es, xs, h, x, hx => by
    cases xs with
    | nil => cases hx
    | cons y r =>
      obtain ⟨h1, h2⟩ := b2 (show (unstar y && (okE T N S B e y && okEs T N S B es r)) = true from h)
      rcases List.mem_cons.mp hx with rfl | hx
      · exact h1
      · exact okEs_star (b2 h2).2 x hx
theorem boot_isi : bootBuiltins "isinstance" = some (.builtin "isinstance") := by decide +kernel
theorem boot_ty (t : Ty) : bootBuiltins (tyS t) = some (.type (tyN t)) := by cases t <;> decide +kernel
/-- f(e, ..), f a built-in function -/
theorem pe_blt (g : Gd G S N k X) (F : Fa G T P k) {b : Blt} {x : Str} {p pos : Pos} {e : Expr} {es : List Expr} {t : TA} (hB : bltB T S b x = true) (ha : PA X (e :: es) t) (h1 : unstar e = true) (h2 : ∀ e ∈ es, unstar e = true) :
    PE X (.Call (.Name x p) (e :: es) [] pos) (tCB (rBlt G b) t) := by
  unfold bltB at hB
  obtain ⟨c1, c⟩ := b2 hB
  obtain ⟨c2, c⟩ := b2 c
  obtain ⟨c3, c4⟩ := b2 c
  have hx := of_decide_eq_true c1
  have hg := gl_ok g c2
  obtain ⟨n1, n2, n3⟩ := nm_ok c3
  have hs := star_cons (es := es) (env := X.env) h1
  have hp := star_none (env := X.env) (pos := pos) h2
  have hm : bltImp b = false → X.mg x = none := fun e => by
    rw [e] at c4
    rw [g.mg]
    exact F.free x (of_decide_eq_true c4)
  have hm2 : bltImp b = true → X.mg x = some (.builtin (bltId b)) := fun e => by
    rw [e] at c4
    rw [g.mg]
    exact F.bfn x _ (of_decide_eq_true c4)
  cases b with
  | len => exact pe_callB (snd_blt g .len) hg (hm rfl) (by rw [hx]; decide +kernel) ha n3 n1 hs hp
  | abs => exact pe_callB (snd_blt g .abs) hg (hm rfl) (by rw [hx]; decide +kernel) ha n3 n1 hs hp
  | int => exact pe_callTy (snd_blt g .int) hg (hm rfl) (by rw [hx]; decide +kernel) ha n3 n1 hs hp
  | str => exact pe_callTy (snd_blt g .str) hg (hm rfl) (by rw [hx]; decide +kernel) ha n3 n1 hs hp
  | gcd => exact pe_callBfun (snd_blt g .gcd) hg (hm2 rfl) ha n1 hs hp
  | repr => exact pe_callB (snd_blt g .repr) hg (hm rfl) (by rw [hx]; decide +kernel) ha n3 n1 hs hp
  | tup => exact pe_callTy (snd_blt g .tup) hg (hm rfl) (by rw [hx]; decide +kernel) ha n3 n1 hs hp
  | list => exact pe_callTy (snd_blt g .list) hg (hm rfl) (by rw [hx]; decide +kernel) ha n3 n1 hs hp
  | ord => exact pe_callB (snd_blt g .ord) hg (hm rfl) (by rw [hx]; decide +kernel) ha n3 n1 hs hp
  | min2 => exact pe_callB (snd_blt g .min2) hg (hm rfl) (by rw [hx]; decide +kernel) ha n3 n1 hs hp
  | max2 => exact pe_callB (snd_blt g .max2) hg (hm rfl) (by rw [hx]; decide +kernel) ha n3 n1 hs hp
  | comb => exact pe_callBfun (snd_blt g .comb) hg (hm2 rfl) ha n1 hs hp
theorem pe_bltT (g : Gd G S N k X) (F : Fa G T P k) {b : BltT} {x : Str} {p pos : Pos} {e : Expr} {t : TA} (hB : bltTB T S b x = true) (ha : PA X [e] t) (h1 : unstar e = true) :
    PE X (.Call (.Name x p) [e] [] pos) (tCB (rBltT G b) t) := by
  unfold bltTB at hB
  obtain ⟨c1, c⟩ := b2 hB
  obtain ⟨c2, c⟩ := b2 c
  obtain ⟨c3, c4⟩ := b2 c
  have hx := of_decide_eq_true c1
  have hg := gl_ok g c2
  obtain ⟨n1, n2, n3⟩ := nm_ok c3
  have hs := star_cons (es := []) (env := X.env) h1
  have hm : X.mg x = none := by
    rw [g.mg]
    exact F.free x (of_decide_eq_true c4)
  cases b with
  | tup => exact pe_callTy (snd_bltT g .tup) hg hm (by rw [hx]; decide +kernel) ha n3 n1 hs rfl
  | all => exact pe_callB (snd_bltT g .all) hg hm (by rw [hx]; decide +kernel) ha n3 n1 hs rfl
  | any => exact pe_callB (snd_bltT g .any) hg hm (by rw [hx]; decide +kernel) ha n3 n1 hs rfl
  | sum => exact pe_callB (snd_bltT g .sum) hg hm (by rw [hx]; decide +kernel) ha n3 n1 hs rfl
  | max => exact pe_callB (snd_bltT g .max) hg hm (by rw [hx]; decide +kernel) ha n3 n1 hs rfl
  | min => exact pe_callB (snd_bltT g .min) hg hm (by rw [hx]; decide +kernel) ha n3 n1 hs rfl
  | len => exact pe_callB (snd_bltT g .len) hg hm (by rw [hx]; decide +kernel) ha n3 n1 hs rfl
/-- a if t else b, as a test -/
theorem pt_if {c a b : Expr} {tc ta tb : TT} {pos : Pos} (hc : PT X c tc) (ha : PT X a ta) (hb : PT X b tb) : PT X (.IfExp c a b pos) (fun σ H Q => tc σ H fun k H1 => if k = true then ta σ H1 Q else tb σ H1 Q) := by
  refine ⟨fun pins s σ H Q I h => ?_⟩
  show wpAny _ _ (do if ← isTrue c X.env (eval c X.env) then isTrue a X.env (eval a X.env) else isTrue b X.env (eval b X.env)) _ _ s
  refine wpAny_bind (thn (hc.run pins s σ H _ I h) fun k s1 ⟨H1, I1, q1⟩ => ?_)
  cases k with
  | true => exact ha.run pins s1 σ H1 Q I1 q1
  | false => exact hb.run pins s1 σ H1 Q I1 q1

/-! ### what is walked -/
theorem yields_range (ι : List Addr) (H : Hp) (lo : Int) (n : Nat) : Yields G ι H (Itr lo n) (rngL lo n, []) := by
  intro ι1 h1 H1 e rh _
  refine ⟨fun i d hd => ?_, fun i hi => ?_⟩
  · have hl := (List.getElem?_eq_some_iff.mp hd).1
    simp only [rngL, List.length_map, List.length_range] at hl
    refine ⟨hl, fun x H' y => ?_⟩
    obtain ⟨e1, e2⟩ := y
    subst e1 e2
    refine ⟨.refl, rh, ?_⟩
    simp only [rngL, List.getElem?_map, List.getElem?_range hl, Option.map_some] at hd
    cases hd
    rfl
  · simp only [rngL, List.length_map, List.length_range] at hi
    exact hi
theorem yields_list {K : PySem.W.Frag} {ι : List Addr} {H : Hp} {a : Addr} {ds : List D} {deps : List (Nat × Cell)}
    (hk : ∀ ι1 h1 H1, Ext ι H ι1 H1 → RH G ι1 h1 H1 → depsOk deps h1 = true → ∃ vs, SqL K H1 a vs ∧ DVs G ι1 H1 ds vs) : Yields G ι H (Itl K a) (ds, deps) := by
  intro ι1 h1 H1 e rh hd
  obtain ⟨vs, q1, q2⟩ := hk ι1 h1 H1 e rh hd
  refine ⟨fun i d hi => ?_, fun i hi => ⟨vs, q1, by rw [q2.len]; exact hi⟩⟩
  obtain ⟨v, h2, h3⟩ := q2.get hi
  refine ⟨⟨vs, v, q1, h2⟩, fun x H' y => ?_⟩
  obtain ⟨e1, e2⟩ := y
  subst e1
  have := e2 vs q1
  rw [h2] at this
  cases this
  exact ⟨.refl, rh, h3⟩
theorem yields_tup {K : PySem.W.Frag} {ι : List Addr} {H : Hp} {a : Addr} {ds : List D} {deps : List (Nat × Cell)}
    (hk : ∀ ι1 h1 H1, Ext ι H ι1 H1 → RH G ι1 h1 H1 → depsOk deps h1 = true → ∃ vs, SqT K H1 a vs ∧ DVs G ι1 H1 ds vs) : Yields G ι H (Itt K a) (ds, deps) := by
  intro ι1 h1 H1 e rh hd
  obtain ⟨vs, q1, q2⟩ := hk ι1 h1 H1 e rh hd
  refine ⟨fun i d hi => ?_, fun i hi => ⟨vs, q1, by rw [q2.len]; exact hi⟩⟩
  obtain ⟨v, h2, h3⟩ := q2.get hi
  refine ⟨⟨vs, v, q1, h2⟩, fun x H' y => ?_⟩
  obtain ⟨e1, e2⟩ := y
  subst e1
  have := e2 vs q1
  rw [h2] at this
  cases this
  exact ⟨.refl, rh, h3⟩
/-- a list or a tuple, walked -/
def iSeq (K : PySem.W.Frag) (tl : TE) : TI := fun σ H R => tl σ H fun x H1 => ∃ a, x = .ref a ∧ (((∃ xs, SqL K H1 a xs) ∧ R (Itl K a) H1) ∨ ((∃ xs, SqT K H1 a xs) ∧ R (Itt K a) H1))
theorem pi_seq {tg l : Expr} {tl : TE} (hl : PE X l tl) : PI X tg l (iSeq X.K tl) := by
  refine ⟨fun pins s σ H R I h => ?_⟩
  refine thn (hl.run pins s σ H _ I h) fun v s1 ⟨x, H1, I1, r1, a, e, q⟩ => ?_
  subst e
  cases r1
  have fr : ∀ b ∈ [s1.heap.objs.size], FpOk X pins H1 b := fun b hb => by
    rw [List.mem_singleton.mp hb]
    exact I1.fpOk (Nat.le_refl _) (I1.hok.fresh (Nat.le_refl _))
  rcases q with ⟨⟨xs, hq⟩, q⟩ | ⟨⟨xs, hq⟩, q⟩
  · obtain ⟨its, rv, p, hz⟩ := I1.list hq
    refine wpAny_pyIter_list p.isList ?_
    exact ⟨_, [s1.heap.objs.size], _, _, H1, rfl, I1.kept (t' := s1.toks) fun b o e => Heap.get?_push_of_some _ e, turn_list a _, ⟨_, Heap.get?_push_size _ rfl, rfl, rfl⟩, fr, q⟩
  · obtain ⟨its, rv, p, hz⟩ := I1.tuple hq
    refine wpAny_pyIter_tuple (show s1.heap.IsTuple a its.toArray from p) ?_
    exact ⟨_, [s1.heap.objs.size], _, _, H1, rfl, I1.kept (t' := s1.toks) fun b o e => Heap.get?_push_of_some _ e, turn_tuple a _, ⟨_, Heap.get?_push_size _ rfl, rfl, rfl⟩, fr, q⟩
end
end RV
set_option Elab.async false
set_option linter.all false
set_option maxRecDepth 100000
set_option autoImplicit false
set_option maxHeartbeats 4000000
/-! Part 6: expressions, lists that are made, walks, targets. -/
namespace RV
open PySem PySem.Spec PyProof.Rows L2

section
variable {G : Wd} {T : Tab} {P : List Fn} {N : List Str} {k : Nat}
def okBlk (N : List Str) (own : List Nat) : List (Str × Nat) := own.map fun j => (N.getD j "", j)
theorem okBlk_snd (N : List Str) (own : List Nat) : (okBlk N own).map (·.2) = own := by
  unfold okBlk
  rw [List.map_map]
  induction own with
  | nil => rfl
  | cons a r ih => rw [List.map_cons, ih]; rfl
theorem wipe_set {σ : L2.St} {j : Nat} : ∀ {vs : List Nat}, j ∉ vs → (wipe σ vs)[j]? = σ[j]?
  | [], _ => rfl
  | v :: vs, h => by
    simp only [List.mem_cons, not_or] at h
    unfold wipe
    rw [List.getElem?_set_ne (Ne.symm h.1)]
    exact wipe_set h.2
theorem wipe_in {σ : L2.St} {j : Nat} : ∀ {vs : List Nat}, j ∈ vs → j < σ.length → (wipe σ vs)[j]? = some none
  | v :: vs, h, hl => by
    unfold wipe
    by_cases e : v = j
    · subst e
      rw [List.getElem?_set_self (by rw [wipe_length]; exact hl)]
    · rw [List.getElem?_set_ne e]
      rcases List.mem_cons.mp h with z | z
      · exact absurd z.symm e
      · exact wipe_in z hl
theorem wipe_same {own : List Nat} {σ σ' : L2.St} {sl : List Nat} (h : SameSl sl (wipe σ own) σ') (hs : ∀ j ∈ sl, j ∈ own) : wipe σ' own = wipe σ own := by
  have hl : σ'.length = σ.length := by rw [h.1, wipe_length]
  refine List.ext_getElem? fun j => ?_
  by_cases hj : j ∈ own
  · by_cases hlt : j < σ.length
    · rw [wipe_in hj hlt, wipe_in hj (by rw [hl]; exact hlt)]
    · rw [List.getElem?_eq_none (by rw [wipe_length, hl]; omega), List.getElem?_eq_none (by rw [wipe_length]; omega)]
  · rw [wipe_set hj, h.2 j fun z => hj (hs j z)]
theorem RS.wipe {ι : List Addr} {H : Hp} {env : En} {σ : L2.St} (r : RS G ι H env σ) : ∀ own : List Nat, RS G ι H (wipeE env own) (L2.wipe σ own)
  | [] => r
  | v :: vs => by
    have ih := RS.wipe r vs
    refine ⟨by simp only [wipeE, L2.wipe, List.length_set]; exact ih.len, fun i d e => ?_⟩
    simp only [wipeE] at e
    simp only [L2.wipe]
    by_cases hv : v = i
    · subst hv
      by_cases hl : v < (wipeE env vs).length
      · rw [List.getElem?_set_self hl] at e
        cases e
      · rw [List.getElem?_eq_none (by rw [List.length_set]; omega)] at e
        cases e
    · rw [List.getElem?_set_ne hv] at e
      rw [List.getElem?_set_ne hv]
      exact ih.at_ i d e
theorem takes_no {X : Cx} : Takes X (fun _ _ _ _ => False) := fun u s' ⟨_, _, _, _, _, _, _, _, _, _, _, _, _, _, _, _, z⟩ => z.elim
/-- a comprehension's block -/
theorem gd_blk {S sc : Scope} {X : Cx} {own : List (Str × Nat)} (g : Gd G S N k X) (ok : BlkOk N S sc own) (s : Shared) (H : Hp) (C : Addr) (cl : List (Str × Addr)) (fp : List Addr) :
    Gd2 G (relS sc S) sc N k (X.blk s H sc (compEnvC sc cl C X.env) fp) := by
  have hsc : (compEnvC sc cl C X.env).scope = relS sc S := by
    show relS sc X.env.scope = relS sc S
    rw [g.sc]
  refine ⟨⟨g.prog, g.w, g.K, g.mg, g.base, hsc, g.names, g.nd, g.calm, g.room, g.gd⟩, fun x hx => ?_⟩
  have hk : (relS sc S).names.lookup x = some .local ∨ (relS sc S).names.lookup x = some .cell := by
    rcases hx with hx | hx
    · exact .inl (lookup_relS_keep (by decide) hx)
    · exact .inr (lookup_relS_keep (by decide) hx)
  refine ⟨?_, ?_⟩
  · show Loc (compEnvC sc cl C X.env).scope x
    rw [hsc]
    exact hk
  · rcases hx with hx | hx
    · right
      show (compEnvC sc cl C X.env).scope.names.lookup x = _
      rw [hsc]
      exact lookup_relS_keep (by decide) hx
    · left
      show (sc.names.lookup x == some NameKind.cell) = true
      rw [hx]
      rfl
theorem Pst.calm {α β γ δ : Type} {rel : Rl α β} {rel2 : Rl γ δ} {ι : List Addr} {H : Hp} {r : R α} {f : α → AH → R γ} {Q2 : δ → Hp → Prop} {Q : β → Hp → Prop} {E : XK} {E' : XK} (h : Pst G rel2 ι H (r.calm.bind f) Q2 E)
    (kk : ∀ a h1 ι1 H1 b, Ext ι H ι1 H1 → RH G ι1 h1 H1 → rel.r ι H ι1 H1 a b → Pst G rel2 ι1 H1 (f a h1) Q2 E → Q b H1) : Pst G rel ι H r Q E' := by
  cases r with
  | ok a h' => exact fun ι' H' b e' rh rl => kk a h' ι' H' b e' rh rl (Pst.shift (show Pst G rel2 ι H (f a h') Q2 E from h) e')
  | exc c v h' => exact h.elim
  | bad => exact h
abbrev NoW : WX := fun _ _ _ _ => False
/-- the turns of a comprehension -/
theorem comp_turns {ι1 : List Addr} {H1 : Hp} {J : It} {src : List D × List (Nat × Cell)} {ah : AH} {σ : L2.St} {env : En} {own : List Nat} {tg : Tg} {ifs : CO} {el : CE} {Q : VK} {E : XK} {call : Call} (y : Yields G ι1 H1 J src) (rh : RH G ι1 ah H1) (rs : RS G ι1 H1 env σ)
    (hs : ∀ j ∈ tg.slots, j ∈ own) (hp : Pst G (rL G) ι1 H1 (evComp (fun x h => evG call tg x (wipeE env own) h) (evF call ifs) (evE call el) src.2 src.1 [] ah) Q E) (Dd : Addr) (hD : H1 Dd = none) :
    ∃ Wn : Nat → Nat → Hp → Prop, (∃ m, Wn 0 m (upd H1 Dd (.lst []))) ∧ ∀ i m H, Wn i m H →
      (J.stop i H ∧ Q (.ref Dd) H) ∨ (J.go i H ∧ ∃ Nx : Hp → Prop, (∀ H', Nx H' → ∃ m', m' < m ∧ Wn (i + 1) m' H') ∧ ∀ x H', J.yld i H x H' → rdG G call NoW tg x (wipe σ own) H' fun σ2 H2 => wipe σ2 own = wipe σ own ∧ rdFs G call NoW ifs σ2 H2 fun b H3 =>
        if b = true then rdE G call NoW el σ2 H3 fun y H4 => ∃ acc, H4 Dd = some (.lst acc) ∧ acc.length < sizeLine ∧ Nx (upd H4 Dd (.lst (acc ++ [y]))) else Nx H3) := by
  refine ⟨fun i m H => ∃ ι h acc vs, m = src.1.length - i ∧ i ≤ src.1.length ∧ Ext ι1 H1 ι H ∧ RH G ι h H ∧ H Dd = some (.lst vs) ∧ Dd ∉ ι ∧ DVs G ι H acc vs ∧
    Pst G (rL G) ι1 H1 (evComp (fun x h => evG call tg x (wipeE env own) h) (evF call ifs) (evE call el) src.2 (src.1.drop i) acc h) Q E,
    ⟨_, ι1, ah, [], [], rfl, Nat.zero_le _, ext_new rh hD, rh.new hD, upd_same, rh.notIn hD, DVs.nil, hp⟩, ?_⟩
  rintro i m H ⟨ι, h, acc, vs, rfl, hi, e1, r1, d1, n1, v1, p1⟩
  have y1 := y ι h H e1 r1
  by_cases hlt : i < src.1.length
  · right
    have ed : src.1.drop i = src.1[i] :: src.1.drop (i + 1) := List.drop_eq_getElem_cons hlt
    rw [ed] at p1
    simp only [evComp] at p1
    split at p1
    · rename_i hdep
      obtain ⟨go, yl⟩ := (y1 hdep).1 i src.1[i] (List.getElem?_eq_getElem hlt)
      refine ⟨go, fun H' => ∃ ι h acc vs, Ext ι1 H1 ι H' ∧ RH G ι h H' ∧ H' Dd = some (.lst vs) ∧ Dd ∉ ι ∧ DVs G ι H' acc vs ∧
        Pst G (rL G) ι1 H1 (evComp (fun x h => evG call tg x (wipeE env own) h) (evF call ifs) (evE call el) src.2 (src.1.drop (i + 1)) acc h) Q E, ?_, ?_⟩
      · rintro H' ⟨ι', h', acc', vs', a1, a2, a3, a4, a5, a6⟩
        exact ⟨_, by omega, ι', h', acc', vs', rfl, hlt, a1, a2, a3, a4, a5, a6⟩
      · intro x H' hy
        obtain ⟨e2, r2, dv⟩ := yl x H' hy
        have e12 := e1.trans e2
        -- what stays at Dd
        have kD : ∀ {ιa : List Addr} {Ha : Hp} {ιb : List Addr} {Hb : Hp} {o : HO}, Ha Dd = some o → Dd ∉ ιa → Ext ιa Ha ιb Hb → Hb Dd = some o ∧ Dd ∉ ιb := fun ha hn e => ⟨e.keep _ _ ha hn, fun z => by
          rcases e.new _ z with z | z
          · exact hn z
          · rw [ha] at z
            cases z⟩
        obtain ⟨d2, n2⟩ := kD d1 n1 e2
        -- the wish, from the start, is kept by its own start
        cases p : (evG call tg src.1[i] (wipeE env own) h).calm with
        | bad => rw [p] at p1; exact p1.elim
        | exc c v h' =>
          exfalso
          cases q : evG call tg src.1[i] (wipeE env own) h <;> rw [q] at p <;> cases p
        | ok env1 h1 =>
          have pg : evG call tg src.1[i] (wipeE env own) h = .ok env1 h1 := by
            cases q : evG call tg src.1[i] (wipeE env own) h <;> rw [q] at p <;> cases p
            rfl
          rw [p, R.bind_ok] at p1
          refine ⟨ι, _, h, _, r2, (rs.ext e12).wipe own, dv, ?_⟩
          rw [pg]
          intro ι3 H3 σ3 e3 r3 rl3
          obtain ⟨rs3, ss3⟩ := rl3
          obtain ⟨d3, n3⟩ := kD d2 n2 e3
          refine ⟨wipe_same ss3 hs, ?_⟩
          cases p2 : (evF call ifs env1 h1).calm with
          | bad => rw [p2] at p1; exact p1.elim
          | exc c v h' =>
            exfalso
            cases q : evF call ifs env1 h1 <;> rw [q] at p2 <;> cases p2
          | ok b h2 =>
            have pf : evF call ifs env1 h1 = .ok b h2 := by
              cases q : evF call ifs env1 h1 <;> rw [q] at p2 <;> cases p2
              rfl
            rw [p2, R.bind_ok] at p1
            refine ⟨ι3, env1, h1, r3, rs3, ?_⟩
            rw [pf]
            intro ι4 H4 b' e4 r4 eb
            subst eb
            obtain ⟨d4, n4⟩ := kD d3 n3 e4
            have e14 := (e12.trans e3).trans e4
            have v4 := DVs.ext ((e2.trans e3).trans e4) _ _ v1
            cases b with
            | false =>
              simp only [Bool.false_eq_true, if_false] at p1 ⊢
              exact ⟨ι4, h2, acc, vs, e14, r4, d4, n4, v4, p1⟩
            | true =>
              simp only [if_true] at p1 ⊢
              cases p3 : (evE call el env1 h2).calm with
              | bad => rw [p3] at p1; exact p1.elim
              | exc c v h' =>
                exfalso
                cases q : evE call el env1 h2 <;> rw [q] at p3 <;> cases p3
              | ok yv h3 =>
                have pe : evE call el env1 h2 = .ok yv h3 := by
                  cases q : evE call el env1 h2 <;> rw [q] at p3 <;> cases p3
                  rfl
                rw [p3, R.bind_ok] at p1
                refine ⟨ι4, env1, h2, r4, rs3.ext e4, ?_⟩
                rw [pe]
                intro ι5 H5 w e5 r5 dw
                obtain ⟨d5, n5⟩ := kD d4 n4 e5
                split at p1
                · rename_i hz
                  have v5 := DVs.ext e5 _ _ v4
                  have hD5 : ∀ b ∈ ι5, b ≠ Dd := fun b hb z => n5 (by rw [← z]; exact hb)
                  -- the list at Dd grows: no cell
                  have eu : Ext ι5 H5 ι5 (upd H5 Dd (.lst (vs ++ [w]))) ∨ True := .inr trivial
                  have fx : ∀ b o, H5 b = some o → Fix o → upd H5 Dd (.lst (vs ++ [w])) b = some o := fun b o hb hf => by
                    rw [upd_ne fun z => ?_]
                    · exact hb
                    · rw [z, d5] at hb
                      cases hb
                      exact hf
                  have e15 := e14.trans e5
                  refine ⟨vs, d5, by rw [v5.len, ← SZ_eq]; exact hz, ι5, h3, acc ++ [yv], vs ++ [w], ⟨e15.pre, e15.new, fun b o hb hn => ?_, fun b o hb hf => fx b o (e15.fix b o hb hf) hf⟩,
                    ⟨r5.len, r5.nd, fun n a c c1 c2 => ?_⟩, upd_same, n5, (DVs.mono (List.prefix_refl _) fx _ _ v5).app (DVs.cons (DV.mono (List.prefix_refl _) fx _ _ dw) DVs.nil), p1⟩
                  · rw [upd_ne (ne_of_none hb hD)]
                    exact e15.keep b o hb hn
                  · have q := r5.cell n a c c1 c2
                    cases c with
                    | lst ds =>
                      obtain ⟨us, q1, q2⟩ := q
                      exact ⟨us, by rw [upd_ne (hD5 a (List.mem_of_getElem? c1))]; exact q1, DVs.mono (List.prefix_refl _) fx _ _ q2⟩
                · exact p1.elim
    · exact p1.elim
  · left
    have ei : i = src.1.length := by omega
    subst ei
    rw [List.drop_length] at p1
    simp only [evComp] at p1
    split at p1
    · rename_i hdep
      refine ⟨(y1 hdep).2 _ (Nat.le_refl _), p1 ι H (.ref Dd) e1 r1 ⟨Dd, vs, rfl, d1, n1, hD, v1⟩⟩
    · exact p1.elim
end
end RV
set_option Elab.async false
set_option linter.all false
set_option maxRecDepth 100000
set_option autoImplicit false
set_option maxHeartbeats 4000000
/-! Part 7: every core expression, list, walk and target. -/
namespace RV
open PySem PySem.Spec PyProof.Rows L2
theorem nb {b : Bool} (h : (!b) = true) : b = false := by
  cases b with
  | false => rfl
  | true => cases h
def isBo : Expr → Bool
  | .BoolOp .. => true
  | _ => false
section
variable {G : Wd} {T : Tab} {P : List Fn} {N : List Str} {k : Nat}
def ThE (G : Wd) (call : Call) (W : WX) (X : Cx) (e : Expr) (c : CE) : Prop := PE X e (rdE G call W c) ∧ PT X e (rdB G call W c) ∧ (isBo e = true → PW X e (rdB G call W c))
theorem pl {call : Call} {W : WX} {X : Cx} {S : Scope} {e : Expr} {c : CE} (g : Gd G S N k X) (h : PE X e (rdE G call W c)) (hp : plainT e = true) (hb : isBo e = false) : ThE G call W X e c :=
  ⟨h, ptOf g h hp, fun z => by rw [hb] at z; cases z⟩
theorem litB_pe {X : Cx} {d : D} {c : Const} {j : Nat} {pos : Pos} {W : WX} {call : Call} (h : litB d c = true) : PE X (.Constant c j pos) (rdE G call W (.lit d)) := by
  have fin : ∀ {v : V} {σ : L2.St} {H : Hp} {Q : VK}, (∀ ι H, DV G ι H d v) → rdE G call W (.lit d) σ H Q → Q v H := fun hv ⟨ι, env, ah, rh, rs, hp⟩ => by
    simp only [evE] at hp
    exact hp ι _ _ .refl rh (hv _ _)
  cases d <;> cases c <;> first
    | (cases h; done)
    | exact pe_non.le fun σ H Q q => fin (fun _ _ => rfl) q
    | (have e := of_decide_eq_true h; subst e; first
        | exact pe_int.le fun σ H Q q => fin (fun _ _ => rfl) q
        | exact pe_bl.le fun σ H Q q => fin (fun _ _ => rfl) q
        | exact pe_str.le fun σ H Q q => fin (fun _ _ => rfl) q)
theorem un_inv' {X : Cx} {pins : List (Addr × Obj)} : True := trivial
theorem okGs_len {S B : Scope} : ∀ {c : Tgs} {xs : List Expr}, okGs T N S B c xs = true → xs.length = c.len
  | .nil, xs, h => by
    cases xs with
    | cons _ _ => cases h
    | nil => rfl
  | .cons t ts, xs, h => by
    cases xs with
    | nil => simp [okGs] at h
    | cons y r =>
      simp only [okGs] at h
      rw [List.length_cons, Tgs.len, okGs_len (b2 (b2 h).2).2]
mutual
theorem sE (F : Fa G T P k) : ∀ (c : CE) {S B : Scope} {X : Cx} {W : WX} {e : Expr}, okE T N S B c e = true → Gd2 G S B N k X → Takes X W → ThE G (evC P k) W X e c
  | .var i, S, B, X, W, e, h, g, tk => by
    simp only [okE] at h
    split at h
    · rename_i x pos
      obtain ⟨h1, h2⟩ := b2 h
      obtain ⟨h2, h3⟩ := b2 h2
      obtain ⟨n1, n2, _⟩ := nm_ok h3
      refine pl g.gd ((pe_var (i := i) (by rw [g.gd.names]; exact of_decide_eq_true h1) (by rw [g.gd.sc]; exact vis_ok h2) n1 n2).le fun σ H Q ⟨ι, env, ah, rh, rs, hp⟩ => ?_) rfl rfl
      simp only [evE, var] at hp
      split at hp
      · rename_i d hd
        obtain ⟨v, h4, h5⟩ := rs.at_ i d hd
        exact ⟨v, h4, hp ι H v .refl rh h5⟩
      · exact hp.elim
    · cases h
  | .lit d, S, B, X, W, e, h, g, tk => by
    simp only [okE] at h
    split at h
    · exact pl g.gd (litB_pe h) rfl rfl
    · cases h
  | .glob j d, S, B, X, W, e, h, g, tk => by
    simp only [okE] at h
    split at h
    · rename_i x pos
      obtain ⟨h1, h2⟩ := b2 h
      obtain ⟨h2, h3⟩ := b2 h2
      obtain ⟨n1, n2, _⟩ := nm_ok h3
      obtain ⟨u, v, hm, hr, hv⟩ := F.con j x d (of_decide_eq_true h1)
      refine pl g.gd ((pe_glob (gl_ok g.gd h2) (by rw [g.gd.mg]; exact hm) hr n1).le fun σ H Q ⟨ι, env, ah, rh, rs, hp⟩ => ?_) rfl rfl
      simp only [evE] at hp
      exact hp ι H v .refl rh (hv _ _)
    · cases h
  | .fnv j, S, B, X, W, e, h, g, tk => by
    simp only [okE] at h
    split at h
    · rename_i x pos
      obtain ⟨h1, h2⟩ := b2 h
      obtain ⟨h2, h3⟩ := b2 h2
      obtain ⟨n1, n2, _⟩ := nm_ok h3
      obtain ⟨hm, _⟩ := F.fn j x (of_decide_eq_true h1)
      refine pl g.gd ((pe_glob (v := .ref (G.fa j)) (gl_ok g.gd h2) (by rw [g.gd.mg]; exact hm) rfl n1).le fun σ H Q ⟨ι, env, ah, rh, rs, hp⟩ => ?_) rfl rfl
      simp only [evE] at hp
      exact hp ι H _ .refl rh rfl
    · cases h
  | .tup es, S, B, X, W, e, h, g, tk => by
    simp only [okE] at h
    split at h
    · refine pl g.gd ((pe_tup (sEs F es h g tk)).le fun σ H Q ⟨ι, env, ah, rh, rs, hp⟩ => ?_) rfl rfl
      simp only [evE] at hp
      refine ⟨ι, env, ah, rh, rs, hp.step (rel := rDs G) fun ds h1 ι1 H1 vs e1 rh1 v1 hp1 => ?_⟩
      split at hp1
      · rename_i hz
        exact ⟨by rw [DVs.len v1]; exact sz_le hz, fin_tup rh1 v1 hp1⟩
      · exact hp1.elim
    · cases h
  | .op2 o a b, S, B, X, W, e, h, g, tk => by
    simp only [okE] at h
    split at h
    · obtain ⟨h1, h2⟩ := b2 h
      obtain ⟨h2, h3⟩ := b2 h2
      have eo := of_decide_eq_true h1
      subst eo
      refine pl g.gd ((pe_op (snd_op g.gd o) (sE F a h2 g tk).1 (sE F b h3 g tk).1).le fun σ H Q ⟨ι, env, ah, rh, rs, hp⟩ => ?_) rfl rfl
      simp only [evE] at hp
      exact ⟨ι, env, ah, rh, rs, hp.step (rel := rD G) fun d1 h1 ι1 H1 x e1 rh1 v1 hp1 => ⟨ι1, env, h1, rh1, rs.ext e1, hp1.step (rel := rD G) fun d2 h2 ι2 H2 y e2 rh2 v2 hp2 => ⟨ι2, h2, d1, d2, _, rh2, DV.ext e2 _ _ v1, v2, hp2⟩⟩⟩
    · cases h
  | .neg a, S, B, X, W, e, h, g, tk => by
    simp only [okE] at h
    split at h
    · refine pl g.gd ((pe_un un_neg (sE F a h g tk).1).le fun σ H Q ⟨ι, env, ah, rh, rs, hp⟩ => ?_) rfl rfl
      simp only [evE] at hp
      refine ⟨ι, env, ah, rh, rs, hp.step (rel := rD G) fun d1 h1 ι1 H1 x e1 rh1 v1 hp1 => ?_⟩
      split at hp1
      · exact ⟨_, v1, hp1 ι1 H1 _ .refl rh1 rfl⟩
      · exact hp1.elim
    · cases h
  | .inv a, S, B, X, W, e, h, g, tk => by
    simp only [okE] at h
    split at h
    · refine pl g.gd ((pe_un un_inv (sE F a h g tk).1).le fun σ H Q ⟨ι, env, ah, rh, rs, hp⟩ => ?_) rfl rfl
      simp only [evE] at hp
      refine ⟨ι, env, ah, rh, rs, hp.step (rel := rD G) fun d1 h1 ι1 H1 x e1 rh1 v1 hp1 => ?_⟩
      split at hp1
      · exact ⟨_, v1, hp1 ι1 H1 _ .refl rh1 rfl⟩
      · exact hp1.elim
    · cases h
  | .cmp o a b, S, B, X, W, e, h, g, tk => by
    simp only [okE] at h
    split at h
    · obtain ⟨h1, h0⟩ := b2 h
      obtain ⟨h2, h0⟩ := b2 h0
      obtain ⟨h3, h4⟩ := b2 h0
      have hm := nb h2
      have eo := of_decide_eq_true h1
      subst eo
      have L : ∀ σ H Q, rdE G (evC P k) W (.cmp o a b) σ H Q → tOp (rCmp G o) (rdE G (evC P k) W a) (rdE G (evC P k) W b) σ H Q := fun σ H Q ⟨ι, env, ah, rh, rs, hp⟩ => by
        simp only [evE] at hp
        refine ⟨ι, env, ah, rh, rs, hp.step (rel := rD G) fun d1 h1 ι1 H1 x e1 rh1 v1 hp1 => ⟨ι1, env, h1, rh1, rs.ext e1, hp1.step (rel := rD G) fun d2 h2 ι2 H2 y e2 rh2 v2 hp2 => ?_⟩⟩
        obtain ⟨c, hc, hp3⟩ := hp2.ofO
        exact ⟨ι2, h2, d1, d2, c, rh2, DV.ext e2 _ _ v1, v2, hc, hp3 ι2 H2 _ .refl rh2 rfl⟩
      exact ⟨(pe_cmpR (snd_cmp g.gd o) (sE F a h3 g tk).1 (sE F b h4 g tk).1 hm).le L,
        (pt_cmpR (snd_cmp g.gd o) (sE F a h3 g tk).1 (sE F b h4 g tk).1 hm).le fun σ H Q q => L σ H _ (toBl (fun _ _ _ _ z => evE_cmp_bl z) q), fun z => by cases z⟩
    · cases h
  | .cmp2 o o' a b c, S, B, X, W, e, h, g, tk => by
    simp only [okE] at h
    split at h
    · obtain ⟨h1, h0⟩ := b2 h
      obtain ⟨h2, h01⟩ := b2 h0
      obtain ⟨h3, h02⟩ := b2 h01
      obtain ⟨h4, h03⟩ := b2 h02
      obtain ⟨h5, h6⟩ := b2 h03
      have hm := nb h3
      have eo := of_decide_eq_true h1
      have eo' := of_decide_eq_true h2
      subst eo eo'
      have L : ∀ σ H Q, rdE G (evC P k) W (.cmp2 o o' a b c) σ H Q → tChain (rCmp G o) (rCmp G o') (rdE G (evC P k) W a) (rdE G (evC P k) W b) (rdE G (evC P k) W c) σ H Q := fun σ H Q ⟨ι, env, ah, rh, rs, hp⟩ => by
        simp only [evE] at hp
        refine ⟨ι, env, ah, rh, rs, hp.step (rel := rD G) fun d1 h1 ι1 H1 x e1 rh1 v1 hp1 => ⟨ι1, env, h1, rh1, rs.ext e1, hp1.step (rel := rD G) fun d2 h2 ι2 H2 y e2 rh2 v2 hp2 => ?_⟩⟩
        obtain ⟨kk, hc, hp3⟩ := hp2.ofO
        refine ⟨ι2, h2, d1, d2, kk, rh2, DV.ext e2 _ _ v1, v2, hc, kk, rfl, ?_⟩
        cases kk with
        | false => exact hp3 ι2 H2 _ .refl rh2 rfl
        | true =>
          simp only [if_true] at hp3 ⊢
          refine ⟨ι2, env, h2, rh2, (rs.ext e1).ext e2, hp3.step (rel := rD G) fun d3 h3 ι3 H3 z e3 rh3 v3 hp4 => ?_⟩
          obtain ⟨c', hc', hp5⟩ := hp4.ofO
          exact ⟨ι3, h3, d2, d3, c', rh3, DV.ext e3 _ _ v2, v3, hc', hp5 ι3 H3 _ .refl rh3 rfl⟩
      exact ⟨(pe_chain (snd_cmp g.gd o) (snd_cmp g.gd o') (sE F a h4 g tk).1 (sE F b h5 g tk).1 (sE F c h6 g tk).1 hm).le L,
        (pt_chain (snd_cmp g.gd o) (snd_cmp g.gd o') (sE F a h4 g tk).1 (sE F b h5 g tk).1 (sE F c h6 g tk).1 hm).le fun σ H Q q => L σ H _ (toBl (fun _ _ _ _ z => evE_cmp2_bl z) q), fun z => by cases z⟩
    · cases h
  | .and a b, S, B, X, W, e, h, g, tk => by
    have LE : ∀ σ H Q, rdE G (evC P k) W (.and a b) σ H Q → tAndT X.K (rdE G (evC P k) W a) (rdE G (evC P k) W b) σ H Q := fun σ H Q ⟨ι, env, ah, rh, rs, hp⟩ => by
      simp only [evE] at hp
      refine ⟨ι, env, ah, rh, rs, hp.step (rel := rD G) fun d1 h1 ι1 H1 x e1 rh1 v1 hp1 => ?_⟩
      obtain ⟨kk, hk, hp2⟩ := hp1.ofO
      refine ⟨kk, by rw [g.gd.K]; exact tru_of rh1 v1 hk, ?_⟩
      cases kk with
      | false => exact hp2 ι1 H1 _ .refl rh1 v1
      | true => exact ⟨ι1, env, h1, rh1, rs.ext e1, hp2⟩
    have LT : ∀ σ H Q, rdB G (evC P k) W (.and a b) σ H Q → tAnd (rdB G (evC P k) W a) (rdB G (evC P k) W b) σ H Q := fun σ H Q ⟨ι, env, ah, rh, rs, hp⟩ => by
      rw [evB_and] at hp
      refine ⟨ι, env, ah, rh, rs, hp.step (rel := rX Bool) fun d1 h1 ι1 H1 x e1 rh1 v1 hp1 => ?_⟩
      have v1' : d1 = x := v1
      subst v1'
      cases d1 with
      | false => exact hp1 ι1 H1 _ .refl rh1 rfl
      | true => exact ⟨ι1, env, h1, rh1, rs.ext e1, hp1⟩
    simp only [okE] at h
    split at h
    · rename_i x y pos
      obtain ⟨h1, h2⟩ := b2 h
      have A := sE F a h1 g tk
      have C := sE F b h2 g tk
      have PWh := (pw_and (pos := pos) A.2.1 (pw_and1 C.2.1)).le LT
      exact ⟨(pe_andT A.1 (pe_one C.1)).le LE, PWh.pt, fun _ => PWh⟩
    · rename_i x y z r pos
      obtain ⟨h1, h2⟩ := b2 h
      have A := sE F a h1 g tk
      have C := sE F b h2 g tk
      have PWh := (pw_and (pos := pos) A.2.1 (C.2.2 rfl)).le LT
      exact ⟨(pe_andT A.1 C.1).le LE, PWh.pt, fun _ => PWh⟩
    · cases h
  | .or a b, S, B, X, W, e, h, g, tk => by
    have LE : ∀ σ H Q, rdE G (evC P k) W (.or a b) σ H Q → tOrT X.K (rdE G (evC P k) W a) (rdE G (evC P k) W b) σ H Q := fun σ H Q ⟨ι, env, ah, rh, rs, hp⟩ => by
      simp only [evE] at hp
      refine ⟨ι, env, ah, rh, rs, hp.step (rel := rD G) fun d1 h1 ι1 H1 x e1 rh1 v1 hp1 => ?_⟩
      obtain ⟨kk, hk, hp2⟩ := hp1.ofO
      refine ⟨kk, by rw [g.gd.K]; exact tru_of rh1 v1 hk, ?_⟩
      cases kk with
      | true => exact hp2 ι1 H1 _ .refl rh1 v1
      | false => exact ⟨ι1, env, h1, rh1, rs.ext e1, hp2⟩
    have LT : ∀ σ H Q, rdB G (evC P k) W (.or a b) σ H Q → tOr (rdB G (evC P k) W a) (rdB G (evC P k) W b) σ H Q := fun σ H Q ⟨ι, env, ah, rh, rs, hp⟩ => by
      rw [evB_or] at hp
      refine ⟨ι, env, ah, rh, rs, hp.step (rel := rX Bool) fun d1 h1 ι1 H1 x e1 rh1 v1 hp1 => ?_⟩
      have v1' : d1 = x := v1
      subst v1'
      cases d1 with
      | true => exact hp1 ι1 H1 _ .refl rh1 rfl
      | false => exact ⟨ι1, env, h1, rh1, rs.ext e1, hp1⟩
    simp only [okE] at h
    split at h
    · rename_i x y pos
      obtain ⟨h1, h2⟩ := b2 h
      have A := sE F a h1 g tk
      have C := sE F b h2 g tk
      have PWh := (pw_or (pos := pos) A.2.1 (pw_or1 C.2.1)).le LT
      exact ⟨(pe_orT A.1 (pe_one C.1)).le LE, PWh.pt, fun _ => PWh⟩
    · rename_i x y z r pos
      obtain ⟨h1, h2⟩ := b2 h
      have A := sE F a h1 g tk
      have C := sE F b h2 g tk
      have PWh := (pw_or (pos := pos) A.2.1 (C.2.2 rfl)).le LT
      exact ⟨(pe_orT A.1 C.1).le LE, PWh.pt, fun _ => PWh⟩
    · cases h
  | .not a, S, B, X, W, e, h, g, tk => by
    simp only [okE] at h
    split at h
    · have A := sE F a h g tk
      refine ⟨(pe_notT A.1).le fun σ H Q ⟨ι, env, ah, rh, rs, hp⟩ => ?_, (pt_not A.2.1).le fun σ H Q ⟨ι, env, ah, rh, rs, hp⟩ => ?_, fun z => by cases z⟩
      · simp only [evE] at hp
        refine ⟨ι, env, ah, rh, rs, hp.step (rel := rD G) fun d1 h1 ι1 H1 x e1 rh1 v1 hp1 => ?_⟩
        obtain ⟨kk, hk, hp2⟩ := hp1.ofO
        exact ⟨kk, by rw [g.gd.K]; exact tru_of rh1 v1 hk, hp2 ι1 H1 _ .refl rh1 rfl⟩
      · rw [evB_not] at hp
        refine ⟨ι, env, ah, rh, rs, hp.step (rel := rX Bool) fun d1 h1 ι1 H1 x e1 rh1 v1 hp1 => ?_⟩
        have v1' : d1 = x := v1
        subst v1'
        exact hp1 ι1 H1 _ .refl rh1 rfl
    · cases h
  | .ite t a b, S, B, X, W, e, h, g, tk => by
    simp only [okE] at h
    split at h
    · obtain ⟨h1, h2⟩ := b2 h
      obtain ⟨h2, h3⟩ := b2 h2
      have A := sE F t h1 g tk
      have C := sE F a h2 g tk
      have D' := sE F b h3 g tk
      refine ⟨(pe_ifExp A.2.1 C.1 D'.1).le fun σ H Q ⟨ι, env, ah, rh, rs, hp⟩ => ?_, (pt_if A.2.1 C.2.1 D'.2.1).le fun σ H Q ⟨ι, env, ah, rh, rs, hp⟩ => ?_, fun z => by cases z⟩
      · rw [evE_ite] at hp
        refine ⟨ι, env, ah, rh, rs, hp.step (rel := rX Bool) fun d1 h1 ι1 H1 x e1 rh1 v1 hp1 => ?_⟩
        have v1' : d1 = x := v1
        subst v1'
        cases d1 with
        | true => exact ⟨ι1, env, h1, rh1, rs.ext e1, hp1⟩
        | false => exact ⟨ι1, env, h1, rh1, rs.ext e1, hp1⟩
      · rw [evB_ite] at hp
        refine ⟨ι, env, ah, rh, rs, hp.step (rel := rX Bool) fun d1 h1 ι1 H1 x e1 rh1 v1 hp1 => ?_⟩
        have v1' : d1 = x := v1
        subst v1'
        cases d1 with
        | true => exact ⟨ι1, env, h1, rh1, rs.ext e1, hp1⟩
        | false => exact ⟨ι1, env, h1, rh1, rs.ext e1, hp1⟩
    · cases h
  | .call f es, S, B, X, W, e, h, g, tk => by
    simp only [okE] at h
    split at h
    · rename_i x p xs pos
      obtain ⟨h1, h01⟩ := b2 h
      obtain ⟨h2, h02⟩ := b2 h01
      obtain ⟨h3, h4⟩ := b2 h02
      obtain ⟨n1, _, _⟩ := nm_ok h3
      have hgl := gl_ok g.gd h2
      clear h h01 h02
      obtain ⟨hm, hk, fd, ps, fn, hP, hl, hb, FG⟩ := F.fn f x (of_decide_eq_true h1)
      have hm' : X.mg x = some (.ref (G.fa f)) := by rw [g.gd.mg]; exact hm
      have hk' : PySem.W.keepIn X.K (.ref (G.fa f)) = true := by rw [g.gd.K]; exact hk
      have st := okEs_star h4
      have fin : ∀ {ι1 : List Addr} {h1 : AH} {H1 : Hp} {ds : List D} {vs : List V} {Q : VK} {σ : L2.St}, RH G ι1 h1 H1 → DVs G ι1 H1 ds vs → Pst G (rD G) ι1 H1 (evC P k f ds h1) Q (xk W σ) → spF G P k f fn.np vs H1 Q (xk W σ) := fun {ι1 h1 H1 ds vs Q σ} rh1 v1 hp1 => by
        refine ⟨?_, ι1, h1, ds, rh1, v1, hp1⟩
        rw [DVs.len v1]
        cases k with
        | zero => exact hp1.elim
        | succ k =>
          simp only [evC] at hp1
          rw [hP] at hp1
          dsimp only at hp1
          split at hp1
          · assumption
          · exact hp1.elim
      cases es with
      | nil =>
        cases xs with
        | cons _ _ => cases h4
        | nil =>
          refine pl g.gd ((pe_callG0 g.gd tk FG hb hgl hm' hk' n1).le fun σ H Q ⟨ι, env, ah, rh, rs, hp⟩ => ?_) rfl rfl
          simp only [evE, evEs, R.bind_ok] at hp
          exact fin rh DVs.nil hp
      | cons ce ces =>
        cases xs with
        | nil => cases h4
        | cons y ys =>
          refine pl g.gd ((pe_callG g.gd tk FG hb hgl hm' hk' (sEs F (.cons ce ces) h4 g tk) (st y List.mem_cons_self) (fun z hz => st z (List.mem_cons_of_mem _ hz)) n1).le fun σ H Q ⟨ι, env, ah, rh, rs, hp⟩ => ?_) rfl rfl
          rw [evE] at hp
          exact ⟨ι, env, ah, rh, rs, hp.step (rel := rDs G) fun ds h1 ι1 H1 vs e1 rh1 v1 hp1 => fin rh1 v1 hp1⟩
    · cases h
  | .callv v es, S, B, X, W, e, h, g, tk => by simp [okE] at h
  | .isi a t, S, B, X, W, e, h, g, tk => by
    simp only [okE] at h
    split at h
    · rename_i x p y z q pos
      obtain ⟨h1, h⟩ := b2 h
      obtain ⟨h2, h⟩ := b2 h
      obtain ⟨h3, h⟩ := b2 h
      obtain ⟨h4, h⟩ := b2 h
      obtain ⟨h5, h⟩ := b2 h
      obtain ⟨h6, h⟩ := b2 h
      obtain ⟨h7, h⟩ := b2 h
      have ex := of_decide_eq_true h1
      have ez := of_decide_eq_true h2
      have hx : X.mg x = none := by rw [g.gd.mg]; exact F.free x (of_decide_eq_true h5)
      have hz : X.mg z = none := by rw [g.gd.mg]; exact F.free z (of_decide_eq_true h6)
      have pz : PE X (.Name z q) (tC (.ty (tyN t))) := pe_bltn (u := .type (tyN t)) (gl_ok g.gd h4) hz (by rw [ez]; exact boot_ty t) rfl (by rw [ez]; cases t <;> decide +kernel) (by rw [ez]; cases t <;> decide +kernel)
      refine pl g.gd ((pe_callB (snd_isi g.gd t) (gl_ok g.gd h3) hx (by rw [ex]; exact boot_isi) (pa_cons (sE F a h g tk).1 (pa_cons pz pa_nil) (star_cons h7)) (by rw [ex]; decide +kernel) (by rw [ex]; decide +kernel) (star_cons h7) rfl).le
        fun σ H Q ⟨ι, env, ah, rh, rs, hp⟩ => ?_) rfl rfl
      simp only [evE] at hp
      refine ⟨ι, env, ah, rh, rs, hp.step (rel := rD G) fun d1 h1 ι1 H1 x e1 rh1 v1 hp1 => ?_⟩
      obtain ⟨c, hc, hp2⟩ := hp1.ofO
      exact ⟨ι1, h1, d1, x, c, rfl, rh1, v1, hc, hp2 ι1 H1 _ .refl rh1 rfl⟩
    · cases h
  | .blt b es, S, B, X, W, e, h, g, tk => by
    simp only [okE] at h
    split at h
    · obtain ⟨h1, h2⟩ := b2 h
      have st := okEs_star h2
      refine pl g.gd ((pe_blt g.gd F h1 (sEs F es h2 g tk) (st _ List.mem_cons_self) (fun z hz => st z (List.mem_cons_of_mem _ hz))).le fun σ H Q ⟨ι, env, ah, rh, rs, hp⟩ => ?_) rfl rfl
      simp only [evE] at hp
      exact ⟨ι, env, ah, rh, rs, hp.step (rel := rDs G) fun ds h1 ι1 H1 vs e1 rh1 v1 hp1 => ⟨ι1, h1, ds, _, rh1, v1, hp1⟩⟩
    · cases h
  | .bltT b t, S, B, X, W, e, h, g, tk => by
    simp only [okE] at h
    split at h
    · obtain ⟨h1, h2⟩ := b2 h
      obtain ⟨h2, h3⟩ := b2 h2
      refine pl g.gd ((pe_bltT g.gd F h1 (pa_cons (sT F t h3 g tk) pa_nil (star_cons h2)) h2).le fun σ H Q ⟨ι, env, ah, rh, rs, hp⟩ => ?_) rfl rfl
      simp only [evE] at hp
      refine ⟨ι, env, ah, rh, rs, hp.step (rel := rL G) fun ds h1 ι1 H1 vs e1 rh1 v1 hp1 => ?_⟩
      obtain ⟨a, us, rfl, v2, v3, v4, v5⟩ := v1
      exact ⟨ι1, h1, ds, a, us, _, rfl, v2, rh1, v5, hp1⟩
    · cases h
  | .join s t, S, B, X, W, e, h, g, tk => by
    simp only [okE] at h
    split at h
    · rename_i x m q y p
      obtain ⟨h1, h⟩ := b2 h
      obtain ⟨h2, h⟩ := b2 h
      obtain ⟨h3, h⟩ := b2 h
      obtain ⟨h4, h⟩ := b2 h
      obtain ⟨h5, h6⟩ := b2 h
      have em := of_decide_eq_true h1
      subst em
      refine pl g.gd ((pe_join (sE F s h5 g tk).1 (sT F t h6 g tk) (star_cons h3) (base_plain h2) (of_decide_eq_true h4)).le fun σ H Q ⟨ι, env, ah, rh, rs, hp⟩ => ?_) rfl rfl
      simp only [evE] at hp
      refine ⟨ι, env, ah, rh, rs, hp.step (rel := rD G) fun d1 h1 ι1 H1 x e1 rh1 v1 hp1 => ?_⟩
      split at hp1
      · rename_i sep
        have ex : x = V.str sep := v1
        refine ⟨⟨sep, ex⟩, ι1, env, h1, rh1, rs.ext e1, hp1.step (rel := rL G) fun ds h2 ι2 H2 vs e2 rh2 v2 hp2 => ?_⟩
        split at hp2
        · rename_i ys hy
          split at hp2
          · rename_i hz
            obtain ⟨a, us, rfl, w1, w2, w3, w4⟩ := v2
            have eu := DVs.strs w4 hy
            subst eu
            exact ⟨sep, a, ys, ex, rfl, .inl (SqL.of w1), hz, hp2 ι2 H2 _ .refl rh2 rfl⟩
          · exact hp2.elim
        · exact hp2.elim
      · exact hp1.elim
    · cases h
  | .sub a i, S, B, X, W, e, h, g, tk => by
    simp only [okE] at h
    split at h
    · obtain ⟨h1, h2⟩ := b2 h
      obtain ⟨h2, h3⟩ := b2 h2
      refine pl g.gd ((pe_ix (snd_sub g.gd) (sE F a h2 g tk).1 (sE F i h3 g tk).1 (plain_ix h1)).le fun σ H Q ⟨ι, env, ah, rh, rs, hp⟩ => ?_) rfl rfl
      simp only [evE] at hp
      exact ⟨ι, env, ah, rh, rs, hp.step (rel := rD G) fun d1 h1 ι1 H1 x e1 rh1 v1 hp1 => ⟨ι1, env, h1, rh1, rs.ext e1, hp1.step (rel := rD G) fun d2 h2 ι2 H2 y e2 rh2 v2 hp2 => ⟨ι2, h2, d1, d2, _, rh2, DV.ext e2 _ _ v1, v2, hp2⟩⟩⟩
    · cases h
  | .slice a lo hi, S, B, X, W, e, h, g, tk => by
    simp only [okE] at h
    split at h
    · obtain ⟨h1, h2⟩ := b2 h
      obtain ⟨h2, h3⟩ := b2 h2
      refine pl g.gd ((pe_slice (snd_sl g.gd) (sE F a h1 g tk).1 (sO F lo h2 g tk) (sO F hi h3 g tk)).le fun σ H Q ⟨ι, env, ah, rh, rs, hp⟩ => ?_) rfl rfl
      simp only [evE] at hp
      refine ⟨ι, env, ah, rh, rs, hp.step (rel := rD G) fun d1 h1 ι1 H1 x e1 rh1 v1 hp1 => ⟨ι1, env, h1, rh1, rs.ext e1, hp1.step (rel := rX (Option Int)) fun d2 h2 ι2 H2 y e2 rh2 v2 hp2 =>
        ⟨ι2, env, h2, rh2, (rs.ext e1).ext e2, hp2.step (rel := rX (Option Int)) fun d3 h3 ι3 H3 z e3 rh3 v3 hp3 => ?_⟩⟩⟩
      have v2' : d2 = y := v2
      have v3' : d3 = z := v3
      subst v2' v3'
      exact ⟨ι3, h3, d1, _, rh3, DV.ext e3 _ _ (DV.ext e2 _ _ v1), hp3⟩
    · cases h
  | .alloc t, S, B, X, W, e, h, g, tk => by
    simp only [okE] at h
    have hp0 : plainT e = true ∧ isBo e = false := by
      cases t <;> simp only [okT] at h <;> split at h <;> first | exact ⟨rfl, rfl⟩ | cases h
    refine pl g.gd ((sT F t h g tk).le fun σ H Q ⟨ι, env, ah, rh, rs, hp⟩ => ?_) hp0.1 hp0.2
    simp only [evE] at hp
    refine ⟨ι, env, ah, rh, rs, ?_⟩
    cases q : evT (evC P k) t env ah with
    | bad => rw [q] at hp; exact hp.elim
    | exc c v h1 => rw [q] at hp; exact hp
    | ok ds h1 =>
      rw [q, R.bind_ok] at hp
      intro ι1 H1 v e1 rh1 ⟨a, vs, ev, v1, v2, v3, v4⟩
      subst ev
      refine hp (ι1 ++ [a]) H1 (.ref a) ⟨e1.pre.trans (List.prefix_append _ _), fun b hb => ?_, e1.keep, e1.fix⟩ (rh1.adopt v1 v2 v4) ⟨a, by rw [← rh1.len, List.getElem?_append_right (Nat.le_refl _), Nat.sub_self]; rfl, rfl⟩
      rcases List.mem_append.mp hb with z | z
      · exact e1.new b z
      · exact .inr (by rw [List.mem_singleton.mp z]; exact v3)
  | .meth m o es, S, B, X, W, e, h, g, tk => by
    simp only [okE] at h
    split at h
    · rename_i x n q y p
      obtain ⟨h1, h⟩ := b2 h
      obtain ⟨h2, h⟩ := b2 h
      obtain ⟨h3, h⟩ := b2 h
      obtain ⟨h4, h⟩ := b2 h
      obtain ⟨h5, h6⟩ := b2 h
      have em := of_decide_eq_true h1
      subst em
      have en := of_decide_eq_true h2
      subst en
      have st := okEs_star h6 y List.mem_cons_self
      refine pl g.gd ((pe_bm PySem.F.plainAttrs_list PySem.F.slot_list_append PySem.F.type_list_append (snd_append g.gd) (sE F o h5 g tk).1 (sEs F es h6 g tk) (base_plain h3) (by rw [star_cons st]; rfl) (of_decide_eq_true h4) (star_cons st) rfl).le
        fun σ H Q ⟨ι, env, ah, rh, rs, hp⟩ => ?_) rfl rfl
      simp only [evE] at hp
      refine ⟨ι, env, ah, rh, rs, hp.step (rel := rD G) fun d1 h1 ι1 H1 x e1 rh1 v1 hp1 => ?_⟩
      split at hp1
      · rename_i hm
        refine ⟨?_, ι1, env, h1, rh1, rs.ext e1, hp1.step (rel := rDs G) fun ds h2 ι2 H2 vs e2 rh2 v2 hp2 => ⟨ι2, h2, d1, ds, _, rh2, DV.ext e2 _ _ v1, v2, hp2⟩⟩
        cases d1 with
        | ref n =>
          obtain ⟨a, w1, rfl⟩ := v1
          simp only [methOk] at hm
          split at hm
          · rename_i ds hc
            obtain ⟨vs, w2, w3⟩ := rh1.cell _ a _ w1 hc
            exact .inl ⟨rfl, vs, SqL.of w2⟩
          · cases hm
        | _ => simp [methOk] at hm
      · exact hp1.elim
    · cases h
theorem sEs (F : Fa G T P k) : ∀ (c : CEs) {S B : Scope} {X : Cx} {W : WX} {xs : List Expr}, okEs T N S B c xs = true → Gd2 G S B N k X → Takes X W → PA X xs (rdEs G (evC P k) W c)
  | .nil, S, B, X, W, xs, h, g, tk => by
    cases xs with
    | cons _ _ => cases h
    | nil =>
      refine pa_nil.le fun σ H Q ⟨ι, env, ah, rh, rs, hp⟩ => ?_
      simp only [evEs] at hp
      exact hp ι H [] .refl rh rfl
  | .cons e es, S, B, X, W, xs, h, g, tk => by
    cases xs with
    | nil => cases h
    | cons y r =>
      obtain ⟨h1, h2⟩ := b2 (show (unstar y && (okE T N S B e y && okEs T N S B es r)) = true by simpa only [okEs] using h)
      obtain ⟨h2, h3⟩ := b2 h2
      refine (pa_cons (sE F e h2 g tk).1 (sEs F es h3 g tk) (star_cons h1)).le fun σ H Q ⟨ι, env, ah, rh, rs, hp⟩ => ?_
      simp only [evEs] at hp
      exact ⟨ι, env, ah, rh, rs, hp.step (rel := rD G) fun d1 h1 ι1 H1 x e1 rh1 v1 hp1 => ⟨ι1, env, h1, rh1, rs.ext e1, hp1.step (rel := rDs G) fun ds h2 ι2 H2 vs e2 rh2 v2 hp2 => hp2 ι2 H2 _ .refl rh2 (DVs.cons (DV.ext e2 _ _ v1) v2)⟩⟩
theorem sO (F : Fa G T P k) : ∀ (c : CO) {S B : Scope} {X : Cx} {W : WX} {xs : Option Expr}, okO T N S B c xs = true → Gd2 G S B N k X → Takes X W → PO X xs (rdO G (evC P k) W c)
  | .none, S, B, X, W, xs, h, g, tk => by
    cases xs with
    | some _ => cases h
    | none =>
      refine po_none.le fun σ H Q ⟨ι, env, ah, rh, rs, hp⟩ => ?_
      simp only [evO] at hp
      exact hp ι H none .refl rh rfl
  | .some e, S, B, X, W, xs, h, g, tk => by
    cases xs with
    | none => simp [okO] at h
    | some y =>
      simp only [okO] at h
      refine (po_some (sE F e h g tk).1).le fun σ H Q ⟨ι, env, ah, rh, rs, hp⟩ => ?_
      simp only [evO] at hp
      refine ⟨ι, env, ah, rh, rs, hp.step (rel := rD G) fun d1 h1 ι1 H1 x e1 rh1 v1 hp1 => ?_⟩
      split at hp1
      · exact ⟨_, v1, hp1 ι1 H1 _ .refl rh1 rfl⟩
      · exact hp1.elim
theorem sT (F : Fa G T P k) : ∀ (c : CT) {S B : Scope} {X : Cx} {W : WX} {e : Expr}, okT T N S B c e = true → Gd2 G S B N k X → Takes X W → PE X e (rdT G (evC P k) W c)
  | .lst es, S, B, X, W, e, h, g, tk => by
    simp only [okT] at h
    split at h
    · refine (pe_lst (sEs F es h g tk)).le fun σ H Q ⟨ι, env, ah, rh, rs, hp⟩ => ?_
      simp only [evT] at hp
      refine ⟨ι, env, ah, rh, rs, hp.step (rel := rDs G) fun ds h1 ι1 H1 vs e1 rh1 v1 hp1 => ?_⟩
      split at hp1
      · rename_i hz
        exact ⟨by rw [DVs.len v1]; exact sz_le hz, fun p hp2 => hp1 ι1 _ _ (ext_new rh1 hp2) (rh1.new hp2) ⟨p, vs, rfl, upd_same, rh1.notIn hp2, hp2, DVs.ext (ext_new rh1 hp2) _ _ v1⟩⟩
      · exact hp1.elim
    · cases h
  | .lc own tg it ifs el, S, B, X, W, e, h, g, tk => by
    simp only [okT] at h
    split at h
    · rename_i x t i fs sc pos
      obtain ⟨ha, hb⟩ := b2 h
      obtain ⟨h1, ha⟩ := b2 ha
      obtain ⟨h2, h3⟩ := b2 ha
      obtain ⟨h4, hb⟩ := b2 hb
      obtain ⟨h5, hb⟩ := b2 hb
      obtain ⟨h6, h7⟩ := b2 hb
      have bo : BlkOk N S sc (okBlk N own) := blkOk_by h3
      have hs := of_decide_eq_true h5
      have bk := fun s H C cl fp => gd_blk (G := G) (X := X) g.gd bo s H C cl fp
      refine (pe_lc (own := okBlk N own) (g := rdG G (evC P k) NoW tg) (tt := rdFs G (evC P k) NoW ifs) (te := rdE G (evC P k) NoW el) g.gd.calm (by rw [g.gd.names]; exact g.gd.nd) (sI F it h2 g tk) (by rw [g.gd.names, g.gd.sc]; exact bo)
        (fun s H C cl fp => sG F tg h4 (bk s H C cl fp) takes_no) (fun s H C cl fp => sFs F ifs h7 (bk s H C cl fp) takes_no) (fun s H C cl fp => (sE F el h6 (bk s H C cl fp) takes_no).1) (set_plain h1)).le fun σ H Q ⟨ι, env, ah, rh, rs, hp⟩ => ?_
      rw [okBlk_snd]
      simp only [evT] at hp
      refine ⟨ι, env, ah, rh, rs, ?_⟩
      refine Pst.step (rel := RV.rI G) ?_ fun src h1 ι1 H1 J e1 rh1 y1 hp1 D hD => comp_turns y1 rh1 (rs.ext e1) hs hp1 D hD
      exact hp
    · cases h
theorem sFs (F : Fa G T P k) : ∀ (c : CO) {S B : Scope} {X : Cx} {W : WX} {xs : List Expr}, okFs T N S B c xs = true → Gd2 G S B N k X → Takes X W → PTs X xs (rdFs G (evC P k) W c)
  | .none, S, B, X, W, xs, h, g, tk => by
    cases xs with
    | cons _ _ => cases h
    | nil =>
      refine pts_nil.le fun σ H Q ⟨ι, env, ah, rh, rs, hp⟩ => ?_
      simp only [evF] at hp
      exact hp ι H true .refl rh rfl
  | .some e, S, B, X, W, xs, h, g, tk => by
    simp only [okFs] at h
    split at h
    · refine (pts_one (sE F e h g tk).2.1).le fun σ H Q ⟨ι, env, ah, rh, rs, hp⟩ => ?_
      simp only [evF] at hp
      exact ⟨ι, env, ah, rh, rs, hp⟩
    · cases h
theorem sI (F : Fa G T P k) : ∀ (c : CI) {S B : Scope} {X : Cx} {W : WX} {tg e : Expr}, okI T N S B c e = true → Gd2 G S B N k X → Takes X W → PI X tg e (rdI G (evC P k) W c)
  | .val a, S, B, X, W, tg, e, h, g, tk => by
    simp only [okI] at h
    refine (pi_seq (sE F a h g tk).1).le fun σ H Q ⟨ι, env, ah, rh, rs, hp⟩ => ?_
    simp only [evI] at hp
    refine ⟨ι, env, ah, rh, rs, hp.step (rel := rD G) fun d1 h1 ι1 H1 x e1 rh1 v1 hp1 => ?_⟩
    rw [g.gd.K]
    unfold walkP at hp1
    split at hp1
    · obtain ⟨a, vs, rfl, w1, w2⟩ := v1
      exact ⟨a, rfl, .inr ⟨⟨vs, w1⟩, hp1 ι1 H1 _ .refl rh1 (yields_tup fun ι2 h2 H2 e2 r2 _ => ⟨vs, SqT.ext w1 e2, DVs.ext e2 _ _ w2⟩)⟩⟩
    · obtain ⟨a, vs, rfl, w1, w2⟩ := v1
      exact ⟨a, rfl, .inl ⟨⟨vs, w1.sq⟩, hp1 ι1 H1 _ .refl rh1 (yields_list fun ι2 h2 H2 e2 r2 _ => ⟨vs, (FzL.ext w1 e2).sq, DVs.ext e2 _ _ w2⟩)⟩⟩
    · rename_i n
      obtain ⟨a, w1, rfl⟩ := v1
      split at hp1
      · rename_i ds hc
        obtain ⟨vs, w2, w3⟩ := rh1.cell _ a _ w1 hc
        refine ⟨a, rfl, .inl ⟨⟨vs, SqL.of w2⟩, hp1 ι1 H1 _ .refl rh1 (yields_list fun ι2 h2 H2 e2 r2 hd => ?_)⟩⟩
        have hc2 : h2[n]? = some (Cell.lst ds) := by
          simpa [depsOk] using hd
        obtain ⟨us, u1, u2⟩ := r2.cell n a _ (pre_get e2.pre w1) hc2
        exact ⟨us, SqL.of u1, u2⟩
      · exact hp1.elim
    · exact hp1.elim
  | .rng1 a, S, B, X, W, tg, e, h, g, tk => by
    simp only [okI] at h
    split at h
    · obtain ⟨h1, h⟩ := b2 h
      obtain ⟨h2, h⟩ := b2 h
      obtain ⟨h3, h⟩ := b2 h
      obtain ⟨h4, h5⟩ := b2 h
      have ex := of_decide_eq_true h1
      subst ex
      refine (pi_range1 (gl_ok g.gd h2) (by rw [g.gd.mg]; exact F.free _ (of_decide_eq_true h3)) (pa_cons (sE F a h5 g tk).1 pa_nil (star_cons h4)) (star_cons h4)).le fun σ H Q ⟨ι, env, ah, rh, rs, hp⟩ => ?_
      simp only [evI] at hp
      refine ⟨ι, env, ah, rh, rs, hp.step (rel := rD G) fun d1 h1 ι1 H1 x e1 rh1 v1 hp1 => ?_⟩
      unfold rng1P at hp1
      split at hp1
      · split at hp1
        · rename_i hz
          exact ⟨_, congrArg (fun z => [z]) v1, hz.1, hz.2, hp1 ι1 H1 _ .refl rh1 (yields_range _ _ _ _)⟩
        · exact hp1.elim
      · exact hp1.elim
    · cases h
  | .rng2 a b, S, B, X, W, tg, e, h, g, tk => by
    simp only [okI] at h
    split at h
    · obtain ⟨h1, h⟩ := b2 h
      obtain ⟨h2, h⟩ := b2 h
      obtain ⟨h3, h⟩ := b2 h
      obtain ⟨h4, h⟩ := b2 h
      obtain ⟨h5, h⟩ := b2 h
      obtain ⟨h6, h7⟩ := b2 h
      have ex := of_decide_eq_true h1
      subst ex
      refine (pi_range2 (gl_ok g.gd h2) (by rw [g.gd.mg]; exact F.free _ (of_decide_eq_true h3)) (pa_cons (sE F a h6 g tk).1 (pa_cons (sE F b h7 g tk).1 pa_nil (star_cons h5)) (star_cons h4)) (by rw [star_cons h4, star_cons h5]; rfl) (star_cons h5)).le fun σ H Q ⟨ι, env, ah, rh, rs, hp⟩ => ?_
      simp only [evI] at hp
      refine ⟨ι, env, ah, rh, rs, hp.step (rel := rD G) fun d1 h1 ι1 H1 x e1 rh1 v1 hp1 => ⟨ι1, env, h1, rh1, rs.ext e1, hp1.step (rel := rD G) fun d2 h2 ι2 H2 y e2 rh2 v2 hp2 => ?_⟩⟩
      unfold rng2P at hp2
      split at hp2
      · split at hp2
        · rename_i hz
          have e1 : x = V.int _ := v1
          have e2 : y = V.int _ := v2
          exact ⟨_, _, by rw [e1, e2], ⟨hz.1, hz.2.1, hz.2.2.1, hz.2.2.2⟩, hp2 ι2 H2 _ .refl rh2 (yields_range _ _ _ _)⟩
        · exact hp2.elim
      · exact hp2.elim
    · cases h
  | .tmp t, S, B, X, W, tg, e, h, g, tk => by
    simp only [okI] at h
    refine (pi_list (sT F t h g tk)).le fun σ H Q ⟨ι, env, ah, rh, rs, hp⟩ => ?_
    simp only [evI] at hp
    refine ⟨ι, env, ah, rh, rs, hp.step (rel := rL G) fun ds h1 ι1 H1 x e1 rh1 v1 hp1 => ?_⟩
    obtain ⟨a, vs, rfl, w1, w2, w3, w4⟩ := v1
    exact ⟨a, rfl, ⟨vs, SqL.of w1⟩, hp1 ι1 H1 _ .refl rh1 (yields_list fun ι2 h2 H2 e2 r2 _ => ⟨vs, SqL.of (e2.keep a _ w1 w2), DVs.ext e2 _ _ w4⟩)⟩
theorem sG (F : Fa G T P k) : ∀ (c : Tg) {S B : Scope} {X : Cx} {W : WX} {e : Expr}, okG T N S B c e = true → Gd2 G S B N k X → Takes X W → PG X e (rdG G (evC P k) W c)
  | .name i, S, B, X, W, e, h, g, tk => by
    simp only [okG] at h
    split at h
    · obtain ⟨h1, h2⟩ := b2 h
      obtain ⟨s1, s2⟩ := g.st _ (loc_ok h2)
      refine (pg_name (i := i) (by rw [g.gd.names]; exact g.gd.nd) (by rw [g.gd.names]; exact of_decide_eq_true h1) s1 s2).le fun v σ H Q ⟨ι, env, ah, x, rh, rs, hx, hp⟩ => ?_
      simp only [evG] at hp
      exact hp ι H _ .refl rh ⟨rs.set hx, by simp, fun j hj => List.getElem?_set_ne (fun z => hj (by simp [Tg.slots, z]))⟩
    · cases h
  | .tup ts, S, B, X, W, e, h, g, tk => by
    simp only [okG] at h
    split at h
    · rename_i xs _ _
      have q := sGs F ts h g tk
      refine (pg_tup g.gd.calm q.1 q.2.1 q.2.2).le fun v σ H Q ⟨ι, env, ah, x, rh, rs, hx, hp⟩ => ?_
      simp only [evG] at hp
      split at hp
      · rename_i ds
        obtain ⟨a, vs, rfl, w1, w2⟩ := hx
        split at hp
        · rename_i hl
          refine ⟨a, vs, rfl, by rw [g.gd.K]; exact w1, ?_, ι, env, ah, ds, rh, rs, w2, hp⟩
          rw [DVs.len w2, hl, okGs_len h]
        · exact hp.elim
      · exact hp.elim
    · cases h
  | .sub o i, S, B, X, W, e, h, g, tk => by
    simp only [okG] at h
    split at h
    · rename_i y z pos
      obtain ⟨h1, h2⟩ := b2 h
      obtain ⟨h2, h3⟩ := b2 h2
      refine (pg_sub (sE F o h2 g tk).1 (sE F i h3 g tk).1 (snd_set g.gd) (fun v => by cases z <;> first | rfl | cases h1)).le fun v σ H Q ⟨ι, env, ah, x, rh, rs, hx, hp⟩ => ?_
      simp only [evG] at hp
      have hp' : Pst G (rEnS G [] σ) ι H _ Q (xk W σ) := hp.mono (fun _ _ q => q) fun _ _ _ q => q σ
      refine ⟨ι, env, ah, rh, rs, hp'.step (rel := rD G) fun d1 h1 ι1 H1 x1 e1 rh1 v1 hp1 => ⟨ι1, env, h1, rh1, rs.ext e1, hp1.step (rel := rD G) fun d2 h2 ι2 H2 x2 e2 rh2 v2 hp2 => ?_⟩⟩
      have e12 := e1.trans e2
      refine ⟨ι2, h2, d1, d2, x, xk W σ, rh2, DV.ext e2 _ _ v1, v2, DV.ext e12 _ _ hx, hp2.step (rel := rX Unit) fun u h3 ι3 H3 u' e3 rh3 v3 hp3 => ?_⟩
      exact hp3 ι3 H3 σ .refl rh3 ⟨(rs.ext e12).ext e3, rfl, fun _ _ => rfl⟩
    · cases h
theorem sGs (F : Fa G T P k) : ∀ (c : Tgs) {S B : Scope} {X : Cx} {W : WX} {xs : List Expr}, okGs T N S B c xs = true → Gd2 G S B N k X → Takes X W →
    PGs X xs (rdGs G (evC P k) W c) ∧ (assignEach xs X.env).length = xs.length ∧ (assignEach xs X.env).findIdx? (·.1) = none
  | .nil, S, B, X, W, xs, h, g, tk => by
    cases xs with
    | cons _ _ => cases h
    | nil =>
      refine ⟨pgs_nil.le fun vs σ H Q ⟨ι, env, ah, ds, rh, rs, hv, hp⟩ => ?_, rfl, rfl⟩
      simp only [evGs] at hp
      split at hp
      · exact ⟨hv, hp ι H σ .refl rh ⟨rs, rfl, fun _ _ => rfl⟩⟩
      · exact hp.elim
  | .cons t ts, S, B, X, W, xs, h, g, tk => by
    cases xs with
    | nil => simp [okGs] at h
    | cons y r =>
      simp only [okGs] at h
      obtain ⟨h1, h2⟩ := b2 h
      obtain ⟨h2, h3⟩ := b2 h2
      have q := sGs F ts h3 g tk
      have ea : assignEach (y :: r) X.env = (false, assign y X.env) :: assignEach r X.env := by
        cases y <;> first | rfl | cases h1
      refine ⟨(pgs_cons (sG F t h2 g tk) q.1 (by rw [ea]; rfl)).le fun vs σ H Q ⟨ι, env, ah, ds, rh, rs, hv, hp⟩ => ?_, by rw [ea, List.length_cons, List.length_cons, q.2.1], by rw [ea, List.findIdx?_cons, q.2.2]; rfl⟩
      simp only [evGs] at hp
      split at hp
      · rename_i x xs'
        obtain ⟨v, vr, rfl, w1, w2⟩ := hv
        refine ⟨v, vr, rfl, ι, env, ah, x, rh, rs, w1, ?_⟩
        refine hp.step (rel := rEnS G t.slots σ) fun env1 h1 ι1 H1 σ1 e1 rh1 v1 hp1 => ⟨ι1, env1, h1, xs', rh1, v1.1, DVs.ext e1 _ _ w2, ?_⟩
        have hs := v1.2
        cases q2 : evGs (evC P k) ts xs' env1 h1 with
        | ok env2 h2 =>
          rw [q2] at hp1
          exact fun ι2 H2 σ2 e2 rh2 rl => hp1 ι2 H2 σ2 e2 rh2 ⟨rl.1, rl.2.1.trans hs.1, fun j hj => by
            simp only [Tgs.slots, List.mem_append, not_or] at hj
            rw [rl.2.2 j hj.2, hs.2 j hj.1]⟩
        | exc c v h2 => rw [q2] at hp1; exact hp1
        | bad => rw [q2] at hp1; exact hp1
      · exact hp.elim
end
end
end RV
set_option Elab.async false
set_option linter.all false
set_option maxRecDepth 100000
set_option autoImplicit false
set_option maxHeartbeats 4000000
/-! Part 8: statements. -/
namespace RV
open PySem PySem.Spec PyProof.Rows L2

/-! ### how CPython stores: looked up over a scope alone -/
def dEnv (S : Scope) : PySem.Env := { scope := S, locals := 0, globals := 0, cells := [] }
def pureOf {α : Type} : Sem α → Option α
  | .pure a => some a
  | _ => none
theorem pureOf_ok {α : Type} {t : Sem α} {a : α} (h : pureOf t = some a) : t = pure a := by
  cases t <;> simp [pureOf] at h
  rw [h]
  rfl
def swB (S : Scope) (e : Expr) (t : Option Expr) (l : Nat) : Option Bool := pureOf (swapsWith e t l (dEnv S))
def swK (S : Scope) (ts : List Expr) (e : Expr) : Option (Option (List Str)) := pureOf (swappedStores ts e (dEnv S))
theorem swB_eq {S : Scope} {e : Expr} {t : Option Expr} {l : Nat} {env : PySem.Env} (h : env.scope = S) : swapsWith e t l env = swapsWith e t l (dEnv S) := by
  obtain ⟨sc, _⟩ := env
  cases h
  rfl
theorem swK_eq {S : Scope} {e : Expr} {ts : List Expr} {env : PySem.Env} (h : env.scope = S) : swappedStores ts e env = swappedStores ts e (dEnv S) := by
  obtain ⟨sc, _⟩ := env
  cases h
  rfl
theorem swB_ok {S : Scope} {e : Expr} {t : Option Expr} {l : Nat} {env : PySem.Env} {b : Bool} (h : env.scope = S) (hb : swB S e t l = some b) : swapsWith e t l env = pure b := by
  rw [swB_eq h]
  exact pureOf_ok hb
theorem swK_ok {S : Scope} {e : Expr} {ts : List Expr} {env : PySem.Env} {b : Option (List Str)} (h : env.scope = S) (hb : swK S ts e = some b) : swappedStores ts e env = pure b := by
  rw [swK_eq h]
  exact pureOf_ok hb
def isLoc (S : Scope) (x : Str) : Bool := decide (S.names.lookup x = some .local)
/-- a, b = .. of plain names -/
def parB (N : List Str) (S : Scope) (t : Tg) (e : CE) (tg v : Expr) : Bool := match t, e, tg, v with
  | .tup (.cons (.name i) (.cons (.name j) .nil)), .tup (.cons _ (.cons _ .nil)), .Tuple [.Name x _, .Name y _] _ _, .Tuple [_, _] _ _ =>
    decide (swK S [tg] v = some (some [x, y])) && (decide (i ≠ j) && (decide (N[i]? = some x) && (decide (N[j]? = some y) && (isLoc S x && isLoc S y))))
  | _, _, _, _ => false
/-- a, b, c = .. of plain names -/
def par3B (N : List Str) (S : Scope) (t : Tg) (e : CE) (tg v : Expr) : Bool := match t, e, tg, v with
  | .tup (.cons (.name i) (.cons (.name j) (.cons (.name l) .nil))), .tup (.cons _ (.cons _ (.cons _ .nil))), .Tuple [.Name x _, .Name y _, .Name z _] _ _, .Tuple [_, _, _] _ _ =>
    decide (swK S [tg] v = some (some [x, y, z])) && (decide (i ≠ j ∧ i ≠ l ∧ j ≠ l) && (decide (N[i]? = some x) && (decide (N[j]? = some y) && (decide (N[l]? = some z) && (isLoc S x && (isLoc S y && isLoc S z))))))
  | _, _, _, _ => false
/-- x = [..] on one line -/
def lcB (N : List Str) (S : Scope) (t : Tg) (e : CE) (tg v : Expr) (line : Nat) : Bool := match t, e, tg, v with
  | .name i, .alloc (.lc _ _ _ _ _), .Name x _, .ListComp .. => decide (swB S v (some tg) line = some true) && (isLoc S x && decide (N[i]? = some x))
  | _, _, _, _ => false
def asB (T : Tab) (N : List Str) (S : Scope) (t : Tg) (e : CE) (tg v : Expr) (line : Nat) : Bool :=
  okG T N S S t tg && (okE T N S S e v && (unstar tg && ((decide (swB S v (some tg) line = some false) && (decide (swK S [tg] v = some none) || (parB N S t e tg v || par3B N S t e tg v))) || lcB N S t e tg v line)))
def okFl (n f : Str) : Expr → Bool
  | .Attribute (.Name n' _) f' _ => decide (n' = n) && decide (f' = f)
  | _ => false
def okSE (n f : Str) (r : SE) (v : Expr) : Bool := match r with
  | .fld => okFl n f v
  | .tag d => (match v with
    | .Tuple [.Constant c _ _, e] _ _ => litB d c && (unstar e && okFl n f e)
    | _ => false)
mutual
def okS (T : Tab) (N : List Str) (S : Scope) : CS → Stmt → Bool
  | .asg t e, st => (match st with
    | .Assign [tg] v pos => asB T N S t e tg v pos.line
    | _ => false)
  | .aug i o e, st => (match st with
    | .AugAssign (.Name x _) p v _ => decide (o = p) && (decide (N[i]? = some x) && (locB S x && okE T N S S e v))
    | _ => false)
  | .expr e, st => (match st with
    | .Expr v pos => decide (swB S v none pos.line = some false) && okE T N S S e v
    | _ => false)
  | .ret e, st => (match st with
    | .Return (some v) _ => okE T N S S e v
    | _ => false)
  | .retN, st => (match st with
    | .Return none _ => true
    | _ => false)
  | .ifs t a b, st => (match st with
    | .If c x y _ => okE T N S S t c && (okSs T N S a x && okSs T N S b y)
    | _ => false)
  | .whil t b, st => (match st with
    | .While c x [] _ => okE T N S S t c && okSs T N S b x
    | _ => false)
  | .forr t it b, st => (match st with
    | .For tg i x [] _ => unset i && (okG T N S S t tg && (okI T N S S it i && okSs T N S b x))
    | _ => false)
  | .pass, st => (match st with
    | .Pass _ => true
    | _ => false)
  | .brk, st => (match st with
    | .Break _ => true
    | _ => false)
  | .cnt, st => (match st with
    | .Continue _ => true
    | _ => false)
  | .never, _ => true
  | .raise c e, st => (match st with
    | .Raise (some (.Call (.Name x _) [y] [] _)) none _ => decide ((T.exc[c]?).map (·.1) = some x) && (glB S x && (nmB x && (unstar y && okE T N S S e y)))
    | _ => false)
  | .tryR b c i m r, st => (match st with
    | .Try body [.ExceptHandler (some (.Name x _)) (some n) [.Return (some v) _] _] [] [] _ => (match T.exc[c]? with
      | some (x', f) => decide (x' = x) && (decide (m = T.exc.length) && (glB S x && (nmB x && (decide (N[i]? = some n) && (isLoc S n && (nmB n && (okSE n f r v && okSs T N S b body)))))))
      | none => false)
    | _ => false)
def okSs (T : Tab) (N : List Str) (S : Scope) : CSs → List Stmt → Bool
  | .nil, xs => xs.isEmpty
  | .cons s ss, xs => (match xs with
    | x :: r => okS T N S s x && okSs T N S ss r
    | _ => false)
end
section
variable (G : Wd) (call : Call) (W : WX)
def rdS (c : CS) : TS := fun D σ H => ∃ ι env ah, RH G ι ah H ∧ RS G ι H env σ ∧ Pst G (rF G) ι H (evS call c env ah) (Out.want D) (xall W)
def rdSs (c : CSs) : TS := fun D σ H => ∃ ι env ah, RH G ι ah H ∧ RS G ι H env σ ∧ Pst G (rF G) ι H (evSs call c env ah) (Out.want D) (xall W)
end
section
variable {α β γ δ : Type} {G : Wd} {rel : Rl α β} {rel2 : Rl γ δ} {ι ι1 : List Addr} {H H1 : Hp} {r : R α} {Q : β → Hp → Prop} {E E2 : XK}
theorem Pst.stepE {f : α → AH → R γ} {Q2 : δ → Hp → Prop} (h : Pst G rel2 ι H (r.bind f) Q2 E2) (ke : ∀ c d H, E2 c d H → E c d H) (k : ∀ a h1 ι1 H1 b, Ext ι H ι1 H1 → RH G ι1 h1 H1 → rel.r ι H ι1 H1 a b → Pst G rel2 ι1 H1 (f a h1) Q2 E2 → Q b H1) : Pst G rel ι H r Q E := by
  cases r with
  | ok a h' => exact fun ι' H' b e' rh rl => k a h' ι' H' b e' rh rl (Pst.shift (show Pst G rel2 ι H (f a h') Q2 E2 from h) e')
  | exc c v h' => exact fun ι' H' dx vv e1 e2 e3 e4 => ke _ _ _ (h ι' H' dx vv e1 e2 e3 e4)
  | bad => exact h
end
/-- a, b, c = x, y, z with plain local names -/
def tPar3 (i j l : Nat) (ta : TA) : TS := fun D σ H => ta σ H fun vs H1 => ∃ u v w, vs = [u, v, w] ∧ D.nx (((σ.set i (some u)).set j (some v)).set l (some w)) H1
theorem ps_par3 {X : Cx} {i j l : Nat} {x y z : Str} {a b c : Expr} {ta : TA} {px py pz pt pos : Pos} {kt k2 pt2} (hc : X.calm = true) (hN : X.N.Nodup) (hi : X.N[i]? = some x) (hj : X.N[j]? = some y) (hl : X.N[l]? = some z) (hij : i ≠ j ∧ i ≠ l ∧ j ≠ l)
    (hx : X.env.scope.names.lookup x = some .local) (hy : X.env.scope.names.lookup y = some .local) (hz : X.env.scope.names.lookup z = some .local) (ha : PA X [a, b, c] ta)
    (hw : swappedStores [.Tuple [.Name x px, .Name y py, .Name z pz] kt pt] (.Tuple [a, b, c] k2 pt2) X.env = pure (some [x, y, z]))
    (hs : swapsWithSole [.Tuple [.Name x px, .Name y py, .Name z pz] kt pt] (.Tuple [a, b, c] k2 pt2) pos.line X.env = pure false) :
    PS X (.Assign [.Tuple [.Name x px, .Name y py, .Name z pz] kt pt] (.Tuple [a, b, c] k2 pt2) pos) (tPar3 i j l ta) := by
  refine ⟨fun pins s σ H D I h => ?_⟩
  rw [exec_Assign_arm]
  refine wpAny_bind (wpAny_standAt ?_)
  rw [hs]
  refine wpAny_bind (wpAny_pure ?_)
  rw [if_neg (by decide)]
  refine wpAny_bind (Tuple_ (thn (ha.run _ pins s σ H _ I h) fun us s1 ⟨vs, H1, I1, r1, q1⟩ => ?_))
  obtain ⟨v1, v2, v3, e1, q1⟩ := q1
  subst e1
  obtain ⟨u1, u2, u3, rfl, r1, r2, r3⟩ : ∃ u1 u2 u3, us = [u1, u2, u3] ∧ RelV v1 u1 ∧ RelV v2 u2 ∧ RelV v3 u3 := by
    cases r1 with
    | cons p q => cases q with
      | cons p' q' => cases q' with
        | cons p'' q'' =>
          cases q''
          exact ⟨_, _, _, rfl, p, p', p''⟩
  refine wpAny_newObj_type ?_ (by show 3 ≤ sizeLine; decide)
  have I2 : Inv X pins σ H1 { s1 with heap := s1.heap.push { cls := .type "tuple", data := .seq [u1, u2, u3].toArray } } := I1.kept (t' := s1.toks) fun b o e => Heap.get?_push_of_some _ e
  rw [hw]
  refine wpAny_bind (wpAny_pure ?_)
  show wpAny (model X.prog X.w) X.A (do rule "assign.swapped-stores"; let items ← unpackItems (.ref s1.heap.objs.size) 3 none; assignInOrder [fun v => bindName X.env z v, fun v => bindName X.env y v, fun v => bindName X.env x v] items.reverse; pure Flow.next) _ _ _
  refine wpAny_bind (wpAny_rule (wpAny_bind (unpackItems_tuple (items := #[u1, u2, u3]) (I.ok.hd hc) (IsTup.new s1.heap _) fun h' hx' => ?_)))
  have I3 := I2.kept (h' := h') (t' := s1.toks) fun b o e => hx' b o (Nat.ne_of_lt (Heap.lt_size e)) e
  show wpAny _ _ (assignInOrder [fun v => bindName X.env z v, fun v => bindName X.env y v, fun v => bindName X.env x v] [u3, u2, u1] >>= fun _ => pure Flow.next) _ _ _
  refine wpAny_bind (assignInOrder_cons (wpAny_bindName (store_ok I3 hN hl (.inl hz) r3 (fun s2 I4 => ?_) (.inr hz))))
  refine assignInOrder_cons (wpAny_bindName (store_ok I4 hN hj (.inl hy) r2 (fun s3 I5 => ?_) (.inr hy)))
  refine assignInOrder_cons (wpAny_bindName (store_ok I5 hN hi (.inl hx) r1 (fun s4 I6 => assignInOrder_nil (wpAny_pure ?_)) (.inr hx)))
  rw [List.set_comm _ _ hij.1.symm, List.set_comm _ _ hij.2.1.symm, List.set_comm _ _ hij.2.2.symm] at I6 <;> first | exact ⟨_, H1, I6, q1⟩ | skip
section
variable {G : Wd} {T : Tab} {P : List Fn} {N : List Str} {k : Nat}
theorem alloc_le {call : Call} {W : WX} {t : CT} {σ : L2.St} {H : Hp} {Q : VK} (z : rdE G call W (.alloc t) σ H Q) : rdT G call W t σ H Q := by
  obtain ⟨ι, env, ah, rh, rs, hp⟩ := z
  simp only [evE] at hp
  refine ⟨ι, env, ah, rh, rs, ?_⟩
  cases q : evT call t env ah with
  | bad => rw [q] at hp; exact hp.elim
  | exc c v h1 => rw [q] at hp; exact hp
  | ok ds h1 =>
    rw [q, R.bind_ok] at hp
    intro ι1 H1 v e1 rh1 ⟨a, vs, ev, v1, v2, v3, v4⟩
    subst ev
    refine hp (ι1 ++ [a]) H1 (.ref a) ⟨e1.pre.trans (List.prefix_append _ _), fun b hb => ?_, e1.keep, e1.fix⟩ (rh1.adopt v1 v2 v4) ⟨a, by rw [← rh1.len, List.getElem?_append_right (Nat.le_refl _), Nat.sub_self]; rfl, rfl⟩
    rcases List.mem_append.mp hb with z | z
    · exact e1.new b z
    · exact .inr (by rw [List.mem_singleton.mp z]; exact v3)
theorem lc_le {call : Call} {W : WX} {own : List Nat} {tg : Tg} {it : CI} {ifs : CO} {el : CE} {σ : L2.St} {H : Hp} {Q : VK} (hs : ∀ j ∈ tg.slots, j ∈ own) (z : rdT G call W (.lc own tg it ifs el) σ H Q) :
    tLc (rdI G call W it) (rdG G call NoW tg) (rdFs G call NoW ifs) (rdE G call NoW el) ((okBlk N own).map (·.2)) σ H Q := by
  obtain ⟨ι, env, ah, rh, rs, hp⟩ := z
  rw [okBlk_snd]
  simp only [evT] at hp
  refine ⟨ι, env, ah, rh, rs, ?_⟩
  refine Pst.step (rel := RV.rI G) ?_ fun src h1 ι1 H1 J e1 rh1 y1 hp1 D hD => comp_turns y1 rh1 (rs.ext e1) hs hp1 D hD
  exact hp
theorem isLoc_ok {S : Scope} {x : Str} (h : isLoc S x = true) : S.names.lookup x = some .local := of_decide_eq_true h
/-- what a statement wants, with another way on -/
theorem want_nx {D : Ends} {u : L2.St → Hp → Prop} {o : Out} {H : Hp} (h : ∀ σ, o = .nx σ → u σ H) (h' : (∀ σ, o ≠ .nx σ) → Out.want D o H) : Out.want { D with nx := u } o H := by
  cases o with
  | nx σ => exact h σ rfl
  | rt v => exact h' fun _ => by intro e; cases e
  | bk v => exact h' fun _ => by intro e; cases e
  | ct v => exact h' fun _ => by intro e; cases e
theorem as_gen (F : Fa G T P k) {t : Tg} {e : CE} {S : Scope} {X : Cx} {W : WX} {tg v : Expr} {pos : Pos} (hg : okG T N S S t tg = true) (he : okE T N S S e v = true) (hu : unstar tg = true)
    (hb : swB S v (some tg) pos.line = some false) (hk : swK S [tg] v = some none) (g : Gd2 G S S N k X) (tk : Takes X W) : PS X (.Assign [tg] v pos) (rdS G (evC P k) W (.asg t e)) := by
  refine (ps_asg (sE F e he g tk).1 (sG F t hg g tk) (swB_ok g.gd.sc hb) (swK_ok g.gd.sc hk) (by cases tg <;> first | rfl | cases hu)).le fun D σ H ⟨ι, env, ah, rh, rs, hp⟩ => ?_
  simp only [evS] at hp
  refine ⟨ι, env, ah, rh, rs, hp.stepE (rel := rD G) (fun _ _ _ z => z σ) fun x h1 ι1 H1 y e1 rh1 v1 hp1 => ⟨ι1, env, h1, x, rh1, rs.ext e1, v1, hp1.step (rel := rEnS G t.slots σ) fun env1 h2 ι2 H2 σ2 e2 rh2 v2 hp2 => ?_⟩⟩
  exact hp2 ι2 H2 (.nx σ2) .refl rh2 v2.1
end
end RV
set_option Elab.async false
set_option linter.all false
set_option maxRecDepth 100000
set_option autoImplicit false
set_option maxHeartbeats 4000000
/-! Part 9: every core statement. -/
namespace RV
open PySem PySem.Spec PyProof.Rows L2
section
variable {G : Wd} {T : Tab} {P : List Fn} {N : List Str} {k : Nat}
theorem as_lc (F : Fa G T P k) {t : Tg} {e : CE} {S : Scope} {X : Cx} {W : WX} {tg v : Expr} {pos : Pos} (he : okE T N S S e v = true) (hb : lcB N S t e tg v pos.line = true) (g : Gd2 G S S N k X) (tk : Takes X W) : PS X (.Assign [tg] v pos) (rdS G (evC P k) W (.asg t e)) := by
  unfold lcB at hb
  split at hb
  · rename_i i own lt it ifs el x px x0 gens sc lpos
    obtain ⟨h1, h2⟩ := b2 hb
    obtain ⟨h2, h3⟩ := b2 h2
    have hyl := of_decide_eq_true h2
    have hi := of_decide_eq_true h3
    have hsw := swB_ok g.gd.sc (of_decide_eq_true h1)
    simp only [okE, okT] at he
    split at he
    · rename_i xx tt ii fs sc' pos'  heq
      cases heq
      obtain ⟨ha, hb⟩ := b2 he
      obtain ⟨a1, ha⟩ := b2 ha
      obtain ⟨a2, a3⟩ := b2 ha
      obtain ⟨a4, hb⟩ := b2 hb
      obtain ⟨a5, hb⟩ := b2 hb
      obtain ⟨a6, a7⟩ := b2 hb
      have bo : BlkOk N S sc (okBlk N own) := blkOk_by a3
      have hs := of_decide_eq_true a5
      have bk := fun s H C cl fp => gd_blk (G := G) (X := X) g.gd bo s H C cl fp
      refine (ps_setLc (i := i) (own := okBlk N own) (g := rdG G (evC P k) NoW lt) (tt := rdFs G (evC P k) NoW ifs) (te := rdE G (evC P k) NoW el) g.gd.calm (by rw [g.gd.names]; exact g.gd.nd) (by rw [g.gd.names]; exact hi) (by rw [g.gd.sc]; exact hyl) hsw
        (sI F it a2 g tk) (by rw [g.gd.names, g.gd.sc]; exact bo)
        (fun s H C cl fp => sG F lt a4 (bk s H C cl fp) takes_no) (fun s H C cl fp => sFs F ifs a7 (bk s H C cl fp) takes_no) (fun s H C cl fp => (sE F el a6 (bk s H C cl fp) takes_no).1) (set_plain a1)).le fun D σ H ⟨ι, env, ah, rh, rs, hp⟩ => ?_
      refine lc_le hs (alloc_le ⟨ι, env, ah, rh, rs, ?_⟩)
      simp only [evS] at hp
      exact hp.stepE (rel := rD G) (fun _ _ _ z => z σ) fun x h1 ι1 H1 y e1 rh1 v1 hp1 => by
        simp only [evG, R.bind_ok] at hp1
        exact hp1 ι1 H1 (.nx _) .refl rh1 ((rs.ext e1).set v1)
    · cases he
  · cases hb
theorem len2 {α : Type} {l : List α} (h : l.length = 2) : ∃ a b, l = [a, b] := by
  cases l with
  | nil => cases h
  | cons a r => cases r with
    | nil => cases h
    | cons b r => cases r with
      | nil => exact ⟨a, b, rfl⟩
      | cons _ _ => simp at h
theorem len3 {α : Type} {l : List α} (h : l.length = 3) : ∃ a b c, l = [a, b, c] := by
  cases l with
  | nil => cases h
  | cons a r =>
    obtain ⟨b, c, rfl⟩ := len2 (l := r) (by simpa using h)
    exact ⟨a, b, c, rfl⟩
theorem as_par (F : Fa G T P k) {t : Tg} {e : CE} {S : Scope} {X : Cx} {W : WX} {tg v : Expr} {pos : Pos} (he : okE T N S S e v = true) (hb : swB S v (some tg) pos.line = some false) (hp0 : parB N S t e tg v = true) (g : Gd2 G S S N k X) (tk : Takes X W) :
    PS X (.Assign [tg] v pos) (rdS G (evC P k) W (.asg t e)) := by
  unfold parB at hp0
  split at hp0
  · rename_i i j ea eb x px y py _ _ a b _ _
    obtain ⟨h1, h0⟩ := b2 hp0
    obtain ⟨h2, h0⟩ := b2 h0
    obtain ⟨h3, h0⟩ := b2 h0
    obtain ⟨h4, h0⟩ := b2 h0
    obtain ⟨h5, h6⟩ := b2 h0
    simp only [okE] at he
    refine (ps_par (i := i) (j := j) g.gd.calm (by rw [g.gd.names]; exact g.gd.nd) (by rw [g.gd.names]; exact of_decide_eq_true h3) (by rw [g.gd.names]; exact of_decide_eq_true h4) (of_decide_eq_true h2) (by rw [g.gd.sc]; exact isLoc_ok h5) (by rw [g.gd.sc]; exact isLoc_ok h6)
      (sEs F (.cons ea (.cons eb .nil)) he g tk) (swK_ok g.gd.sc (of_decide_eq_true h1)) (swB_ok g.gd.sc hb)).le fun D σ H ⟨ι, env, ah, rh, rs, hp⟩ => ?_
    simp only [evS] at hp
    rw [show evE (evC P k) (.tup (.cons ea (.cons eb .nil))) env ah = (evEs (evC P k) (.cons ea (.cons eb .nil)) env ah).bind fun ds h1 => if ds.length ≤ SZ then .ok (.tup ds) h1 else .bad from by simp only [evE], R.bind_assoc] at hp
    refine ⟨ι, env, ah, rh, rs, hp.stepE (rel := rDs G) (fun _ _ _ z => z σ) fun ds h1 ι1 H1 vs e1 rh1 v1 hp1 => ?_⟩
    split at hp1
    · simp only [R.bind_ok, evG] at hp1
      split at hp1
      · rename_i hl
        obtain ⟨d1, d2, rfl⟩ := len2 hl
        obtain ⟨w1, r1, rfl, q1, w2, r2, rfl, q2, rfl⟩ := v1
        simp only [evGs, evG, R.bind_ok] at hp1
        exact ⟨w1, w2, rfl, hp1 ι1 H1 (.nx _) .refl rh1 (((rs.ext e1).set q1).set q2)⟩
      · exact hp1.elim
    · exact hp1.elim
  · cases hp0
theorem as_par3 (F : Fa G T P k) {t : Tg} {e : CE} {S : Scope} {X : Cx} {W : WX} {tg v : Expr} {pos : Pos} (he : okE T N S S e v = true) (hb : swB S v (some tg) pos.line = some false) (hp0 : par3B N S t e tg v = true) (g : Gd2 G S S N k X) (tk : Takes X W) :
    PS X (.Assign [tg] v pos) (rdS G (evC P k) W (.asg t e)) := by
  unfold par3B at hp0
  split at hp0
  · rename_i i j l ea eb ec x px y py z pz _ _ a b c _ _
    obtain ⟨h1, h0⟩ := b2 hp0
    obtain ⟨h2, h0⟩ := b2 h0
    obtain ⟨h3, h0⟩ := b2 h0
    obtain ⟨h4, h0⟩ := b2 h0
    obtain ⟨h5, h0⟩ := b2 h0
    obtain ⟨h6, h0⟩ := b2 h0
    obtain ⟨h7, h8⟩ := b2 h0
    simp only [okE] at he
    refine (ps_par3 (i := i) (j := j) (l := l) g.gd.calm (by rw [g.gd.names]; exact g.gd.nd) (by rw [g.gd.names]; exact of_decide_eq_true h3) (by rw [g.gd.names]; exact of_decide_eq_true h4) (by rw [g.gd.names]; exact of_decide_eq_true h5) (of_decide_eq_true h2) (by rw [g.gd.sc]; exact isLoc_ok h6) (by rw [g.gd.sc]; exact isLoc_ok h7) (by rw [g.gd.sc]; exact isLoc_ok h8)
      (sEs F (.cons ea (.cons eb (.cons ec .nil))) he g tk) (swK_ok g.gd.sc (of_decide_eq_true h1)) (swB_ok g.gd.sc hb)).le fun D σ H ⟨ι, env, ah, rh, rs, hp⟩ => ?_
    simp only [evS] at hp
    rw [show evE (evC P k) (.tup (.cons ea (.cons eb (.cons ec .nil)))) env ah = (evEs (evC P k) (.cons ea (.cons eb (.cons ec .nil))) env ah).bind fun ds h1 => if ds.length ≤ SZ then .ok (.tup ds) h1 else .bad from by simp only [evE], R.bind_assoc] at hp
    refine ⟨ι, env, ah, rh, rs, hp.stepE (rel := rDs G) (fun _ _ _ z => z σ) fun ds h1 ι1 H1 vs e1 rh1 v1 hp1 => ?_⟩
    split at hp1
    · simp only [R.bind_ok, evG] at hp1
      split at hp1
      · rename_i hl
        obtain ⟨d1, d2, d3, rfl⟩ := len3 hl
        obtain ⟨w1, r1, rfl, q1, w2, r2, rfl, q2, w3, r3, rfl, q3, rfl⟩ := v1
        simp only [evGs, evG, R.bind_ok] at hp1
        exact ⟨w1, w2, w3, rfl, hp1 ι1 H1 (.nx _) .refl rh1 ((((rs.ext e1).set q1).set q2).set q3)⟩
      · exact hp1.elim
    · exact hp1.elim
  · cases hp0
end
section
variable {G : Wd} {W : WX}
/-- a while's turns -/
theorem while_turns {call : Call} {t : CE} {b : CSs} {ι : List Addr} {env : En} {ah : AH} {σ : L2.St} {H : Hp} {D : Ends} (rh : RH G ι ah H) (rs : RS G ι H env σ) (hp : Pst G (rF G) ι H (evWhile (evB call t) (evSs call b) FUEL env ah) (Out.want D) (xall W)) :
    tWhile (rdB G call W t) (rdSs G call W b) D σ H := by
  refine ⟨fun m σ H => ∃ ι env ah, RH G ι ah H ∧ RS G ι H env σ ∧ Pst G (rF G) ι H (evWhile (evB call t) (evSs call b) m env ah) (Out.want D) (xall W), ⟨FUEL, ι, env, ah, rh, rs, hp⟩, ?_⟩
  rintro m σ H ⟨ι, env, ah, rh, rs, hp⟩
  cases m with
  | zero => exact hp.elim
  | succ m =>
    simp only [evWhile] at hp
    refine ⟨ι, env, ah, rh, rs, hp.stepE (rel := rX Bool) (fun _ _ _ z => z σ) fun c h1 ι1 H1 c' e1 rh1 v1 hp1 => ?_⟩
    have v1' : c = c' := v1
    subst v1'
    cases c with
    | false =>
      exact hp1 ι1 H1 (.nx σ) .refl rh1 (rs.ext e1)
    | true =>
      simp only [if_true] at hp1 ⊢
      refine ⟨fun σ' H' => ∃ ι env ah, RH G ι ah H' ∧ RS G ι H' env σ' ∧ Pst G (rF G) ι H' (evWhile (evB call t) (evSs call b) m env ah) (Out.want D) (xall W), fun σ' H' z => ⟨m, Nat.lt_succ_self m, z⟩, ι1, env, h1, rh1, rs.ext e1, ?_⟩
      refine hp1.step (rel := rF G) fun f h2 ι2 H2 o e2 rh2 v2 hp2 => ?_
      cases f with
      | nx e =>
        cases o with
        | nx σ2 => exact ⟨ι2, e, h2, rh2, v2, hp2⟩
        | _ => exact v2.elim
      | ct e =>
        cases o with
        | ct σ2 => exact ⟨ι2, e, h2, rh2, v2, hp2⟩
        | _ => exact v2.elim
      | bk e =>
        cases o with
        | bk σ2 => exact hp2 ι2 H2 (.nx σ2) .refl rh2 v2
        | _ => exact v2.elim
      | rt d =>
        cases o with
        | rt v => exact hp2 ι2 H2 (.rt v) .refl rh2 v2
        | _ => exact v2.elim
/-- a for's turns -/
theorem for_turns {call : Call} {t : Tg} {b : CSs} {ι : List Addr} {env : En} {ah : AH} {σ : L2.St} {H : Hp} {D : Ends} {src : List RV.D × List (Nat × Cell)} {J : It} (y : Yields G ι H J src) (rh : RH G ι ah H) (rs : RS G ι H env σ)
    (hp : Pst G (rF G) ι H (evLoop (evG call t) (evSs call b) src.2 src.1 env ah) (Out.want D) (xall W)) :
    ∃ Wn : Nat → Nat → L2.St → Hp → Prop, (∃ m, Wn 0 m σ H) ∧ ∀ i m σ H, Wn i m σ H →
      (J.stop i H ∧ D.nx σ H) ∨ (J.go i H ∧ ∃ Nx : L2.St → Hp → Prop, (∀ σ' H', Nx σ' H' → ∃ m', m' < m ∧ Wn (i + 1) m' σ' H') ∧ ∀ x H', J.yld i H x H' → rdG G call W t x σ H' fun σ2 H2 => rdSs G call W b { D with nx := Nx, ct := Nx, bk := D.nx } σ2 H2) := by
  refine ⟨fun i m σ' H' => m = src.1.length - i ∧ i ≤ src.1.length ∧ ∃ ι1 env ah, Ext ι H ι1 H' ∧ RH G ι1 ah H' ∧ RS G ι1 H' env σ' ∧ Pst G (rF G) ι1 H' (evLoop (evG call t) (evSs call b) src.2 (src.1.drop i) env ah) (Out.want D) (xall W),
    ⟨_, rfl, Nat.zero_le _, ι, env, ah, .refl, rh, rs, hp⟩, ?_⟩
  rintro i m σ H ⟨rfl, hi, ι1, env, ah, e1, rh, rs, hp⟩
  have y1 := y ι1 ah H e1 rh
  by_cases hlt : i < src.1.length
  · right
    have ed : src.1.drop i = src.1[i] :: src.1.drop (i + 1) := List.drop_eq_getElem_cons hlt
    rw [ed] at hp
    simp only [evLoop] at hp
    split at hp
    · rename_i hdep
      obtain ⟨go, yl⟩ := (y1 hdep).1 i src.1[i] (List.getElem?_eq_getElem hlt)
      refine ⟨go, fun σ' H' => ∃ ι2 env ah, Ext ι1 H ι2 H' ∧ RH G ι2 ah H' ∧ RS G ι2 H' env σ' ∧ Pst G (rF G) ι2 H' (evLoop (evG call t) (evSs call b) src.2 (src.1.drop (i + 1)) env ah) (Out.want D) (xall W), ?_, ?_⟩
      · rintro σ' H' ⟨ι2, env2, ah2, q1, q2, q3, q4⟩
        exact ⟨_, by omega, rfl, hlt, ι2, env2, ah2, e1.trans q1, q2, q3, q4⟩
      · intro x H' hy
        obtain ⟨e2, r2, dv⟩ := yl x H' hy
        refine ⟨ι1, env, ah, src.1[i], r2, rs.ext e2, dv, (hp.shift e2).step (rel := rEnS G t.slots σ) fun env1 h1 ι3 H3 σ3 e3 rh3 v3 hp3 => ⟨ι3, env1, h1, rh3, v3.1, ?_⟩⟩
        have e23 := e2.trans e3
        refine hp3.step (rel := rF G) fun f h4 ι4 H4 o e4 rh4 v4 hp4 => ?_
        have e24 := e23.trans e4
        cases f with
        | nx e =>
          cases o with
          | nx σ4 => exact ⟨ι4, e, h4, e24, rh4, v4, hp4⟩
          | _ => exact v4.elim
        | ct e =>
          cases o with
          | ct σ4 => exact ⟨ι4, e, h4, e24, rh4, v4, hp4⟩
          | _ => exact v4.elim
        | bk e =>
          cases o with
          | bk σ4 => exact hp4 ι4 H4 (.nx σ4) .refl rh4 v4
          | _ => exact v4.elim
        | rt d =>
          cases o with
          | rt v => exact hp4 ι4 H4 (.rt v) .refl rh4 v4
          | _ => exact v4.elim
    · exact hp.elim
  · left
    have ei : i = src.1.length := by omega
    subst ei
    rw [List.drop_length] at hp
    simp only [evLoop] at hp
    split at hp
    · rename_i hdep
      exact ⟨(y1 hdep).2 _ (Nat.le_refl _), hp ι1 H (.nx σ) .refl rh rs⟩
    · exact hp.elim
end
end RV
set_option Elab.async false
set_option linter.all false
set_option maxRecDepth 100000
set_option autoImplicit false
set_option maxHeartbeats 4000000
/-! Part 8b: raise, try. -/
namespace RV
open PySem PySem.Spec PyProof.Rows L2
section
variable {G : Wd} {T : Tab} {P : List Fn} {N : List Str} {k : Nat}
theorem takes_len {X : Cx} {W : WX} (tk : Takes X W) : Takes X (fun c d σ H => σ.length = X.N.length → W c d σ H) :=
  fun u s' ⟨a, B, sI, pins, σ, H, cls, d, e, I, nb, up, sky, na, os, ag, w⟩ => tk u s' ⟨a, B, sI, pins, σ, H, cls, d, e, I, nb, up, sky, na, os, ag, w I.len⟩
theorem as_raise (F : Fa G T P k) {c : Nat} {e : CE} {S : Scope} {X : Cx} {W : WX} {x : Str} {y : Expr} {px pc pr : Pos} (h : (decide ((T.exc[c]?).map (·.1) = some x) && (glB S x && (nmB x && (unstar y && okE T N S S e y)))) = true) (g : Gd2 G S S N k X) (tk : Takes X W) :
    PS X (.Raise (some (.Call (.Name x px) [y] [] pc)) none pr) (rdS G (evC P k) W (.raise c e)) := by
  obtain ⟨h1, h⟩ := b2 h
  obtain ⟨h2, h⟩ := b2 h
  obtain ⟨h3, h⟩ := b2 h
  obtain ⟨h4, h5⟩ := b2 h
  obtain ⟨n1, _, _⟩ := nm_ok h3
  have he := of_decide_eq_true h1
  cases q : T.exc[c]? with
  | none => rw [q] at he; cases he
  | some p =>
    obtain ⟨x', f⟩ := p
    rw [q] at he
    have hx : x' = x := Option.some.inj he
    subst hx
    obtain ⟨hm, hf, fI, ef⟩ := F.exc c x' f q
    have ef' : ExF X.prog X.K (G.ca c) fI f := by
      rw [g.gd.prog, g.gd.K]
      exact ef
    have hdep : X.A.depth + 1 < recursionLimit := by have := g.gd.room.dp; omega
    refine (ps_raise g.gd.calm tk (pmk_own ef' (by rw [g.gd.mg]; exact hm) hdep (pa_cons (sE F e h5 g tk).1 pa_nil (star_cons h4)) (gl_ok g.gd h2) n1 (star_cons h4))).le fun D σ H ⟨ι, env, ah, rh, rs, hp⟩ => ?_
    simp only [evS] at hp
    refine ⟨ι, env, ah, rh, rs, hp.stepE (rel := rD G) (fun _ _ _ z => z σ) fun v h1 ι1 H1 vv e1 rh1 w1 hp1 => ?_⟩
    refine ⟨vv, rfl, fun d hd => ?_⟩
    exact hp1 ι1 (upd H1 d (.xd [(f, vv)])) d vv (ext_new rh1 hd) (rh1.new hd) (by rw [hf]; exact upd_same) (DV.ext (ext_new rh1 hd) _ _ w1) σ
/-- the suite -/
def tsR (G : Wd) (call : Call) (f : Str) (C : Addr) (i : Nat) (r : SE) : Addr → Value → Option Addr → TS := fun a cls d => match r with
  | .fld => tRet (tFld f C a cls d (tVar i))
  | .tag q => tRet (tTup (tCons (rdE G call NoW (.lit q)) (tCons (tFld f C a cls d (tVar i)) tNil)))
theorem fl_ok {X : Cx} {C fI : Addr} {f n : Str} {i : Nat} {v : Expr} {a : Addr} {oe : Obj} {cls : Value} {d : Option Addr} {pn : List (Addr × Obj)} (h : okFl n f v = true) (T : ExF X.prog X.K C fI f) (hz : Zc cls d oe) (hf : ∃ vs, oe.data = .fields vs)
    (hN : X.N[i]? = some n) (hv : Vis X.env.scope n) (hn : nmB n = true) : PE (X.suite a ((a, oe) :: pn)) v (tFld f C a cls d (tVar i)) ∧ unstar v = true := by
  unfold okFl at h
  split at h
  · rename_i n' p1 f' p2
    obtain ⟨h1, h2⟩ := b2 h
    have e1 := of_decide_eq_true h1
    have e2 := of_decide_eq_true h2
    subst e1 e2
    obtain ⟨n1, n2, _⟩ := nm_ok hn
    exact ⟨pe_fld T hz hf (pe_var (X := X.suite a ((a, oe) :: pn)) (i := i) hN hv n1 n2) (base_plain rfl), rfl⟩
  · cases h
theorem suite_ok {X : Cx} {call : Call} {C fI : Addr} {f n : Str} {i : Nat} {v : Expr} {r : SE} {a : Addr} {oe : Obj} {cls : Value} {d : Option Addr} {pn : List (Addr × Obj)} {pos : Pos} (h : okSE n f r v = true) (T : ExF X.prog X.K C fI f) (hz : Zc cls d oe) (hf : ∃ vs, oe.data = .fields vs)
    (hN : X.N[i]? = some n) (hv : Vis X.env.scope n) (hn : nmB n = true) : PSs (X.suite a ((a, oe) :: pn)) [.Return (some v) pos] (tsR G call f C i r a cls d) := by
  cases r with
  | fld => exact pss_one (ps_ret (fl_ok h T hz hf hN hv hn).1)
  | tag q =>
    simp only [okSE] at h
    split at h
    · obtain ⟨h1, h⟩ := b2 h
      obtain ⟨h2, h3⟩ := b2 h
      exact pss_one (ps_ret (pe_tup (pa_cons (litB_pe h1) (pa_cons (fl_ok h3 T hz hf hN hv hn).1 pa_nil (star_cons h2)) rfl)))
    · cases h
theorem as_try (F : Fa G T P k) {b : CSs} {c i m : Nat} {r : SE} {S : Scope} {X : Cx} {W : WX} {x n f : Str} {body : List Stmt} {v : Expr} {px pr ph pt : Pos} (q : T.exc[c]? = some (x, f)) (hm0 : m = T.exc.length) (h2 : glB S x = true) (h3 : nmB x = true) (h4 : N[i]? = some n) (h5 : isLoc S n = true) (h6 : nmB n = true) (h7 : okSE n f r v = true)
    (hb : ∀ {X' : Cx} {W' : WX}, Gd2 G S S N k X' → Takes X' W' → PassesOwn (model X'.prog X'.w) X'.A X'.env X'.xe → X'.stack = X'.env :: X'.outer → X'.env.frame = some X'.env.locals → PSs X' body (rdSs G (evC P k) W' b))
    (g : Gd2 G S S N k X) (tk : Takes X W) (hs : X.stack = X.env :: X.outer) (hf : X.env.frame = some X.env.locals) :
    PS X (.Try body [.ExceptHandler (some (.Name x px)) (some n) [.Return (some v) pr] ph] [] [] pt) (rdS G (evC P k) W (.tryR b c i m r)) := by
  obtain ⟨n1, _, _⟩ := nm_ok h3
  obtain ⟨hm, hfl, fI, ef⟩ := F.exc c x f q
  have ef' : ExF X.prog X.K (G.ca c) fI f := by
    rw [g.gd.prog, g.gd.K]
    exact ef
  have hN : X.N[i]? = some n := by rw [g.gd.names]; exact h4
  have hl : X.env.scope.names.lookup n = some .local := by rw [g.gd.sc]; exact isLoc_ok h5
  have hcl : c < T.exc.length := (List.getElem?_eq_some_iff.mp q).1
  refine (ps_try_as (i := i) (tb := fun W => rdSs G (evC P k) (fun c d σ H => σ.length = X.N.length → W c d σ H) b) (ts := tsR G (evC P k) f (G.ca c) i r) (Wout := W) hs hf (by rw [g.gd.names]; exact g.gd.nd) hN hl ⟨gl_ok g.gd h2, n1, .inl (by rw [g.gd.mg]; exact hm)⟩ tk
    (fun W' pn xe tk' po' => hb ⟨⟨g.gd.prog, g.gd.w, g.gd.K, g.gd.mg, g.gd.base, g.gd.sc, g.gd.names, g.gd.nd, g.gd.calm, g.gd.room, g.gd.gd⟩, g.st⟩ (takes_len tk') po' hs hf)
    (fun a oe cls d pn hz hf' => suite_ok h7 ef' hz hf' hN (.inl hl) h6)).le fun D σ H ⟨ι, env, ah, rh, rs, hp⟩ => ?_
  simp only [evS] at hp
  refine ⟨ι, env, ah, rh, rs, ?_⟩
  cases e : evSs (evC P k) b env ah with
  | ok fl h' => rw [e] at hp; exact hp
  | bad => rw [e] at hp; exact hp.elim
  | exc c' vv h' =>
    rw [e] at hp
    simp only [catch_] at hp
    intro ι' H' dx vx e1 rh1 hx hv σ' hlen
    by_cases hcc : c' = c
    · subst hcc
      rw [if_pos rfl] at hp
      refine ⟨true, by rw [g.gd.K, F.exm c' c' hcl hcl]; simp, fun _ a ha => ?_, fun z => by cases z⟩
      have hlt : i < σ'.length := by
        rw [hlen]
        exact (List.getElem?_eq_some_iff.mp hN).1
      have hget : (σ'.set i (some (V.ref a)))[i]? = some (some (V.ref a)) := List.getElem?_set_self hlt
      rw [hfl] at hx
      cases r with
      | fld =>
        exact ⟨_, hget, rfl, rfl, dx, vx, rfl, hx, hp ι' H' (.rt vx) e1 rh1 hv⟩
      | tag qd =>
        refine ⟨ι', List.replicate σ'.length none, h', rh1, ⟨by simp, fun j d z => ?_⟩, ?_⟩
        · rw [List.getElem?_replicate] at z
          split at z <;> cases z
        · simp only [evE]
          intro ι2 H2 lv e2 rh2 hlv
          refine ⟨_, hget, rfl, rfl, dx, vx, rfl, e2.keep dx _ hx (fun hi => ?_), ?_⟩
          · obtain ⟨o, ho, nf⟩ := rh1.mem hi
            have := rh1.cell
            obtain ⟨m, hm', em⟩ := List.getElem_of_mem hi
            have hlt' : m < h'.length := by rw [← rh1.len]; exact hm'
            have := rh1.cell m dx h'[m] (by simp [hm', em]) (by simp [hlt'])
            cases hc : h'[m] with
            | lst ds =>
              rw [hc] at this
              obtain ⟨us, z1, _⟩ := this
              rw [hx] at z1
              cases z1
          · refine ⟨by show 2 ≤ sizeLine; decide, fun p hpn => ?_⟩
            have e3 := ext_new (o := .tup [lv, vx]) rh2 hpn
            refine hp ι2 (upd H2 p (.tup [lv, vx])) (.rt (.ref p)) ((e1.trans e2).trans e3) (rh2.new hpn) ?_
            exact ⟨p, [lv, vx], rfl, .inl (.inl upd_same), DVs.cons (DV.ext e3 _ _ hlv) (DVs.cons (DV.ext e3 _ _ (DV.ext e2 _ _ hv)) DVs.nil)⟩
    · rw [if_neg hcc] at hp
      split at hp
      · rename_i hc'
        rw [hm0] at hc'
        exact ⟨false, by rw [g.gd.K, F.exm c c' hcl hc']; simp [hcc], (fun z => by cases z), fun _ => hp ι' H' dx vx e1 rh1 hx hv σ'⟩
      · exact hp.elim
end
end RV
set_option Elab.async false
set_option linter.all false
set_option maxRecDepth 100000
set_option autoImplicit false
set_option maxHeartbeats 4000000
/-! Part 9: every core statement. -/
namespace RV
open PySem PySem.Spec PyProof.Rows L2
section
variable {G : Wd} {T : Tab} {P : List Fn} {N : List Str} {k : Nat}
mutual
theorem sS (F : Fa G T P k) : ∀ (c : CS) {S : Scope} {X : Cx} {W : WX} {st : Stmt}, okS T N S c st = true → Gd2 G S S N k X → Takes X W → PassesOwn (model X.prog X.w) X.A X.env X.xe → X.stack = X.env :: X.outer → X.env.frame = some X.env.locals → PS X st (rdS G (evC P k) W c)
  | .asg t e, S, X, W, st, h, g, tk, po, hs, hf => by
    simp only [okS] at h
    split at h
    · rename_i tg v pos
      unfold asB at h
      obtain ⟨h1, h⟩ := b2 h
      obtain ⟨h2, h⟩ := b2 h
      obtain ⟨h3, h4⟩ := b2 h
      rcases Bool.or_eq_true_iff.mp h4 with h4 | h4
      · obtain ⟨h5, h6⟩ := b2 h4
        have hb := of_decide_eq_true h5
        rcases Bool.or_eq_true_iff.mp h6 with h6 | h6
        · exact as_gen F h1 h2 h3 hb (of_decide_eq_true h6) g tk
        · rcases Bool.or_eq_true_iff.mp h6 with h6 | h6
          · exact as_par F h2 hb h6 g tk
          · exact as_par3 F h2 hb h6 g tk
      · exact as_lc F h2 h4 g tk
    · cases h
  | .aug i o e, S, X, W, st, h, g, tk, po, hs, hf => by
    simp only [okS] at h
    split at h
    · rename_i x px p v pos
      obtain ⟨h1, h⟩ := b2 h
      obtain ⟨h2, h⟩ := b2 h
      obtain ⟨h3, h4⟩ := b2 h
      have eo := of_decide_eq_true h1
      subst eo
      obtain ⟨s1, s2⟩ := g.st _ (loc_ok h3)
      refine (ps_aug (i := i) (by rw [g.gd.names]; exact g.gd.nd) (by rw [g.gd.names]; exact of_decide_eq_true h2) s1 (sE F e h4 g tk).1 (snd_iop g.gd o) s2).le fun D σ H ⟨ι, env, ah, rh, rs, hp⟩ => ?_
      simp only [evS, var] at hp
      split at hp
      · rename_i d hd
        obtain ⟨x0, q1, q2⟩ := rs.at_ i d hd
        rw [R.bind_ok] at hp
        refine ⟨x0, q1, ι, env, ah, rh, rs, hp.stepE (rel := rD G) (fun _ _ _ z => z σ) fun y h1 ι1 H1 v1 e1 rh1 w1 hp1 => ?_⟩
        split at hp1
        · rename_i hio
          exact ⟨ι1, h1, d, y, xall W, rh1, DV.ext e1 _ _ q2, w1, hio, hp1.step (rel := rD G) fun z h2 ι2 H2 v2 e2 rh2 w2 hp2 => hp2 ι2 H2 (.nx _) .refl rh2 (((rs.ext e1).ext e2).set w2)⟩
        · exact hp1.elim
      · exact hp.elim
    · cases h
  | .expr e, S, X, W, st, h, g, tk, po, hs, hf => by
    simp only [okS] at h
    split at h
    · obtain ⟨h1, h2⟩ := b2 h
      refine (ps_expr (sE F e h2 g tk).1 (swB_ok g.gd.sc (of_decide_eq_true h1))).le fun D σ H ⟨ι, env, ah, rh, rs, hp⟩ => ?_
      simp only [evS] at hp
      exact ⟨ι, env, ah, rh, rs, hp.stepE (rel := rD G) (fun _ _ _ z => z σ) fun y h1 ι1 H1 v1 e1 rh1 w1 hp1 => hp1 ι1 H1 (.nx σ) .refl rh1 (rs.ext e1)⟩
    · cases h
  | .ret e, S, X, W, st, h, g, tk, po, hs, hf => by
    simp only [okS] at h
    split at h
    · refine (ps_ret (sE F e h g tk).1).le fun D σ H ⟨ι, env, ah, rh, rs, hp⟩ => ?_
      simp only [evS] at hp
      exact ⟨ι, env, ah, rh, rs, hp.stepE (rel := rD G) (fun _ _ _ z => z σ) fun y h1 ι1 H1 v1 e1 rh1 w1 hp1 => hp1 ι1 H1 (.rt v1) .refl rh1 w1⟩
    · cases h
  | .retN, S, X, W, st, h, g, tk, po, hs, hf => by
    simp only [okS] at h
    split at h
    · refine ps_retN.le fun D σ H ⟨ι, env, ah, rh, rs, hp⟩ => ?_
      simp only [evS] at hp
      exact hp ι H (.rt .non) .refl rh rfl
    · cases h
  | .ifs t a b, S, X, W, st, h, g, tk, po, hs, hf => by
    simp only [okS] at h
    split at h
    · obtain ⟨h1, h⟩ := b2 h
      obtain ⟨h2, h3⟩ := b2 h
      refine (ps_if (sE F t h1 g tk).2.1 (sSs F a h2 g tk po hs hf) (sSs F b h3 g tk po hs hf)).le fun D σ H ⟨ι, env, ah, rh, rs, hp⟩ => ?_
      simp only [evS] at hp
      refine ⟨ι, env, ah, rh, rs, hp.stepE (rel := rX Bool) (fun _ _ _ z => z σ) fun c h1 ι1 H1 c' e1 rh1 v1 hp1 => ?_⟩
      have v1' : c = c' := v1
      subst v1'
      cases c with
      | true => exact ⟨ι1, env, h1, rh1, rs.ext e1, hp1⟩
      | false => exact ⟨ι1, env, h1, rh1, rs.ext e1, hp1⟩
    · cases h
  | .whil t b, S, X, W, st, h, g, tk, po, hs, hf => by
    simp only [okS] at h
    split at h
    · obtain ⟨h1, h2⟩ := b2 h
      refine (ps_while po (sE F t h1 g tk).2.1 (sSs F b h2 g tk po hs hf)).le fun D σ H ⟨ι, env, ah, rh, rs, hp⟩ => ?_
      simp only [evS] at hp
      exact while_turns rh rs hp
    · cases h
  | .forr t it b, S, X, W, st, h, g, tk, po, hs, hf => by
    simp only [okS] at h
    split at h
    · obtain ⟨h1, h⟩ := b2 h
      obtain ⟨h2, h⟩ := b2 h
      obtain ⟨h3, h4⟩ := b2 h
      refine (ps_for po g.gd.calm (sI F it h3 g tk) (sG F t h2 g tk) (sSs F b h4 g tk po hs hf) (set_plain h1)).le fun D σ H ⟨ι, env, ah, rh, rs, hp⟩ => ?_
      simp only [evS] at hp
      exact ⟨ι, env, ah, rh, rs, hp.stepE (rel := RV.rI G) (fun _ _ _ z => z σ) fun src h1 ι1 H1 J e1 rh1 y1 hp1 => for_turns y1 rh1 (rs.ext e1) hp1⟩
    · cases h
  | .pass, S, X, W, st, h, g, tk, po, hs, hf => by
    simp only [okS] at h
    split at h
    · exact ps_pass.le fun D σ H ⟨ι, env, ah, rh, rs, hp⟩ => by
        simp only [evS] at hp
        exact hp ι H (.nx σ) .refl rh rs
    · cases h
  | .brk, S, X, W, st, h, g, tk, po, hs, hf => by
    simp only [okS] at h
    split at h
    · exact ps_break.le fun D σ H ⟨ι, env, ah, rh, rs, hp⟩ => by
        simp only [evS] at hp
        exact hp ι H (.bk σ) .refl rh rs
    · cases h
  | .cnt, S, X, W, st, h, g, tk, po, hs, hf => by
    simp only [okS] at h
    split at h
    · exact ps_continue.le fun D σ H ⟨ι, env, ah, rh, rs, hp⟩ => by
        simp only [evS] at hp
        exact hp ι H (.ct σ) .refl rh rs
    · cases h
  | .never, S, X, W, st, h, g, tk, po, hs, hf => ps_never.le fun D σ H ⟨ι, env, ah, rh, rs, hp⟩ => by
      simp only [evS] at hp
      exact hp.elim
  | .raise c e, S, X, W, st, h, g, tk, po, hs, hf => by
    simp only [okS] at h
    split at h
    · exact as_raise F h g tk
    · cases h
  | .tryR b c i m r, S, X, W, st, h, g, tk, po, hs, hf => by
    simp only [okS] at h
    split at h
    · split at h
      · rename_i x' f q
        obtain ⟨h1, h⟩ := b2 h
        obtain ⟨h0, h⟩ := b2 h
        obtain ⟨h2, h⟩ := b2 h
        obtain ⟨h3, h⟩ := b2 h
        obtain ⟨h4, h⟩ := b2 h
        obtain ⟨h5, h⟩ := b2 h
        obtain ⟨h6, h⟩ := b2 h
        obtain ⟨h7, h8⟩ := b2 h
        have ex := of_decide_eq_true h1
        subst ex
        exact as_try F q (of_decide_eq_true h0) h2 h3 (of_decide_eq_true h4) h5 h6 h7 (fun g' tk' po' hs' hf' => sSs F b h8 g' tk' po' hs' hf') g tk hs hf
      · cases h
    · cases h
theorem sSs (F : Fa G T P k) : ∀ (c : CSs) {S : Scope} {X : Cx} {W : WX} {st : List Stmt}, okSs T N S c st = true → Gd2 G S S N k X → Takes X W → PassesOwn (model X.prog X.w) X.A X.env X.xe → X.stack = X.env :: X.outer → X.env.frame = some X.env.locals → PSs X st (rdSs G (evC P k) W c)
  | .nil, S, X, W, st, h, g, tk, po, hs, hf => by
    cases st with
    | cons _ _ => simp [okSs] at h
    | nil =>
      exact pss_nil.le fun D σ H ⟨ι, env, ah, rh, rs, hp⟩ => by
        simp only [evSs] at hp
        exact hp ι H (.nx σ) .refl rh rs
  | .cons s ss, S, X, W, st, h, g, tk, po, hs, hf => by
    cases st with
    | nil => simp [okSs] at h
    | cons x r =>
      simp only [okSs] at h
      obtain ⟨h1, h2⟩ := b2 h
      refine (pss_cons (sS F s h1 g tk po hs hf) (sSs F ss h2 g tk po hs hf)).le fun D σ H ⟨ι, env, ah, rh, rs, hp⟩ => ?_
      simp only [evSs] at hp
      refine ⟨ι, env, ah, rh, rs, hp.step (rel := rF G) fun f h1 ι1 H1 o e1 rh1 v1 hp1 => ?_⟩
      cases f with
      | nx e =>
        cases o with
        | nx σ2 => exact ⟨ι1, e, h1, rh1, v1, hp1⟩
        | _ => exact v1.elim
      | ct e =>
        cases o with
        | ct σ2 => exact hp1 ι1 H1 (.ct σ2) .refl rh1 v1
        | _ => exact v1.elim
      | bk e =>
        cases o with
        | bk σ2 => exact hp1 ι1 H1 (.bk σ2) .refl rh1 v1
        | _ => exact v1.elim
      | rt d =>
        cases o with
        | rt v => exact hp1 ι1 H1 (.rt v) .refl rh1 v1
        | _ => exact v1.elim
end
end
end RV
set_option Elab.async false
set_option linter.all false
set_option maxRecDepth 100000
set_option autoImplicit false
set_option maxHeartbeats 4000000
/-! Part 10: the text's defs, level by level; the law's end. -/
namespace RV
open PySem PySem.Spec PyProof.Rows L2
/-! ### refs below -/
section
variable {G : Wd} {ι ι' : List Addr} {H H' : Hp}
mutual
theorem DV.un : ∀ (d : D) (v : V), DV G ι H d v → D.under ι.length d = true
  | .non, _, _ => by simp [D.under]
  | .bl _, _, _ => by simp [D.under]
  | .int _, _, _ => by simp [D.under]
  | .str _, _, _ => by simp [D.under]
  | .fn _, _, _ => by simp [D.under]
  | .tup ds, _, ⟨a, vs, _, _, h⟩ => by
    rw [D.under]
    exact DVs.un ds vs h
  | .rol ds, _, ⟨a, vs, _, _, h⟩ => by
    rw [D.under]
    exact DVs.un ds vs h
  | .ref n, _, ⟨a, h, _⟩ => by
    rw [D.under]
    exact decide_eq_true (List.getElem?_eq_some_iff.mp h).1
theorem DVs.un : ∀ (ds : List D) (vs : List V), DVs G ι H ds vs → D.unders ι.length ds = true
  | [], _, _ => by simp [D.unders]
  | d :: ds, _, ⟨v, r, _, h1, h2⟩ => by
    rw [D.unders, DV.un d v h1, DVs.un ds r h2]
    rfl
end
theorem pre_of {n : Nat} {a : Addr} (p : ι <+: ι') (hn : n < ι.length) (h : ι'[n]? = some a) : ι[n]? = some a := by
  obtain ⟨t, rfl⟩ := p
  rw [List.getElem?_append_left hn] at h
  exact h
mutual
theorem DV.cut (p : ι <+: ι') : ∀ (d : D) (v : V), D.under ι.length d = true → DV G ι' H d v → DV G ι H d v
  | .non, _, _, h => h
  | .bl _, _, _, h => h
  | .int _, _, _, h => h
  | .str _, _, _, h => h
  | .fn _, _, _, h => h
  | .tup ds, _, u, ⟨a, vs, h1, h2, h3⟩ => ⟨a, vs, h1, h2, DVs.cut p ds vs (by rw [D.under] at u; exact u) h3⟩
  | .rol ds, _, u, ⟨a, vs, h1, h2, h3⟩ => ⟨a, vs, h1, h2, DVs.cut p ds vs (by rw [D.under] at u; exact u) h3⟩
  | .ref n, _, u, ⟨a, h1, h2⟩ => ⟨a, pre_of p (of_decide_eq_true (by rw [D.under] at u; exact u)) h1, h2⟩
theorem DVs.cut (p : ι <+: ι') : ∀ (ds : List D) (vs : List V), D.unders ι.length ds = true → DVs G ι' H ds vs → DVs G ι H ds vs
  | [], _, _, h => h
  | d :: ds, _, u, ⟨v, r, h1, h2, h3⟩ => by
    rw [D.unders] at u
    obtain ⟨u1, u2⟩ := b2 u
    exact ⟨v, r, h1, DV.cut p d v u1 h2, DVs.cut p ds r u2 h3⟩
end
/-- new cells that nothing names are dropped -/
theorem RH.cut {ah ah' : AH} (r : RH G ι ah H) (e : Ext ι H ι' H') (r' : RH G ι' ah' H') (ht : ah'.take ah.length = ah) : Ext ι H ι H' ∧ RH G ι ah H' := by
  refine ⟨⟨List.prefix_refl _, fun _ z => .inl z, e.keep, e.fix⟩, r.len, r.nd, fun n a c h1 h2 => ?_⟩
  have hn : n < ah.length := (List.getElem?_eq_some_iff.mp h2).1
  have h3 : ah'[n]? = some c := by
    rw [← ht, List.getElem?_take_of_lt hn] at h2
    exact h2
  have q := r'.cell n a c (pre_get e.pre h1) h3
  have q0 := r.cell n a c h1 h2
  cases c with
  | lst ds =>
    obtain ⟨vs, q1, q2⟩ := q
    obtain ⟨us, _, q3⟩ := q0
    exact ⟨vs, q1, DVs.cut e.pre _ _ (DVs.un _ _ q3) q2⟩
theorem sweep_ok {ah ah' : AH} {d : D} {v : V} {Q : VK} {E : XK} (r : RH G ι ah H) (e : Ext ι H ι' H') (r' : RH G ι' ah' H') (hv : DV G ι' H' d v) (p : Pst G (rD G) ι H (sweep ah d ah') Q E) : Q v H' := by
  unfold sweep at p
  split at p
  · rename_i hc
    obtain ⟨e1, r1⟩ := r.cut e r' hc.1
    exact p ι H' v e1 r1 (DV.cut e.pre d v (by rw [r.len]; exact hc.2) hv)
  · exact p ι' H' v e r' hv
theorem rs_start {ds : List D} {vs : List V} (h : DVs G ι H ds vs) (N : List Str) (nn np : Nat) (h1 : nn = N.length) (h2 : vs.length = np) : RS G ι H (ds.map some ++ List.replicate (nn - np) none) (L2.start N vs) := by
  have hl := h.len
  refine ⟨by simp [L2.start, hl, h1, ← h2], fun i d hd => ?_⟩
  have hi : i < ds.length := by
    by_cases hi : i < ds.length
    · exact hi
    · rw [List.getElem?_append_right (by simpa using hi), List.getElem?_replicate] at hd
      split at hd <;> cases hd
  rw [List.getElem?_append_left (by simpa using hi), List.getElem?_map] at hd
  obtain ⟨v, h3, h4⟩ := h.get (i := i) (d := d) (by
    cases q : ds[i]? with
    | none => rw [q] at hd; cases hd
    | some x => rw [q] at hd; cases hd; rfl)
  refine ⟨v, ?_, h4⟩
  unfold L2.start
  rw [List.getElem?_append_left (by simpa [hl] using hi), List.getElem?_map, h3]
  rfl
end
/-! ### a def, one level up -/
section
variable {G : Wd} {T : Tab} {P : List Fn} {k : Nat}
theorem fnG_up (F : Fa G T P k) {j : Nat} {fn : Fn} {N ps : List Str} {x qual : Str} {params : Arguments} {body : List Stmt} {scope : Scope} {fd : FuncData} (hP : P[j]? = some fn) (hps : ps.length = fn.np) (hN : fn.nn = N.length)
    (FD : FunD G.K x qual params body scope [] [] (G.fa j) fd) (S : FnScope N ps scope) (ok : okSs T N scope fn.body body = true) : FnG G.P G.w G.K G.mg G.base (k + 1) (G.fa j) fd ps (spF G P (k + 1) j fn.np) := by
  obtain ⟨oc, od, dV, kV, doc, pm, an, cdv, ct, osl, rfl, lk, hcd, _, _⟩ := FD.ex
  refine ⟨fun vs H Q E h => h.1.trans hps.symm, fun A outer s H args us vs Q E hr hgd e0 hb r hsp => ?_⟩
  obtain ⟨hl, ι, ah, ds, rh, dv, hp⟩ := hsp
  have KX : G.K.In s.heap := e0.mod.kin.keeps fun b o e => (e0.bs b o e).1
  have lim : s.heap.NoLimit := e0.mod.nolimit.keeps fun b o e => (e0.bs b o e).1
  refine codeAny_call_function hr.depth (KX _ _ lk) rfl S.co S.gen rfl (PySem.W.codeRec_of KX hcd) (hb _ _ _ _ ?_)
  refine wpAny_newFunctionEnv_cells S.kind (fun y hy => ?_) fun env he s1 x => ?_
  · rcases S.par y.1 (List.of_mem_zip hy).1 with q | q
    · exact .inl q
    · exact .inr ⟨q, PySem.W.cellsFrom_some _ _ _ (.inl q)⟩
  subst he
  refine ⟨lim.keeps x.toInCall.keep, codeAny_func ?_⟩
  have g : Gd2 G scope scope N k (cxOf (CX G.P G.w) G.P G.w G.K G.mg G.base N qual scope (G.fa j) cdv A outer s H E) := ⟨⟨rfl, rfl, rfl, rfl, rfl, rfl, rfl, S.nd, rfl, hr.deeper _, hgd⟩, fun x hx => ⟨hx, .inl rfl⟩⟩
  have ht := sSs F fn.body ok g (takes_of rfl rfl rfl rfl) (passes_of rfl) rfl rfl
  have I := inv_start (CX := CX G.P G.w) (qual := qual) (f := G.fa j) (cd := cdv) (E := E) S hr.hd e0 (hl.trans hps.symm) r x
  have dl : ds.length = fn.np := dv.len.symm.trans hl
  have hq : rdSs G (evC P k) (fun c d _ H => E c d H) fn.body { nx := fun _ H' => Q .non H', rt := Q } (L2.start N vs) H := by
    refine ⟨ι, _, ah, rh, rs_start dv N fn.nn fn.np hN hl, ?_⟩
    simp only [evC, hP] at hp
    rw [if_pos dl] at hp
    cases q : evSs (evC P k) fn.body (ds.map some ++ List.replicate (fn.nn - fn.np) none) ah with
    | bad => rw [q] at hp; exact hp.elim
    | exc c v h1 =>
      rw [q] at hp
      exact fun ι' H' dx vv e1 e2 e3 e4 σ => hp ι' H' dx vv e1 e2 e3 e4
    | ok f h1 =>
      rw [q, R.bind_ok] at hp
      intro ι1 H1 o e1 rh1 v1
      cases f with
      | nx e =>
        cases o with
        | nx σ => exact sweep_ok (d := .non) (v := V.non) rh e1 rh1 (show DV G ι1 H1 .non .non from rfl) hp
        | _ => exact v1.elim
      | rt d =>
        cases o with
        | rt v => exact sweep_ok rh e1 rh1 v1 hp
        | _ => exact v1.elim
      | bk e => exact hp.elim
      | ct e => exact hp.elim
  refine wpAny_mono (ht.run [] s1 (L2.start N vs) H _ I hq) (fun fl s' hs => ?_) fun e s' hs => hs
  have fin : ∀ {σ' : L2.St} {H' : Hp} {v : V} {u : Value}, Inv (cxOf (CX G.P G.w) G.P G.w G.K G.mg G.base N qual scope (G.fa j) cdv A outer s H E) [] σ' H' s' → RelV v u → Q v H' → L2.CE outer G.P G.w H s Q u s' :=
    fun {σ' H' v u} J rv q => ⟨v, H', J.os, J.bare, J.base, J.hok, rv, q⟩
  cases fl with
  | ret u =>
    obtain ⟨v, σ', H', J, rv, q⟩ := hs
    exact fin J rv q
  | next =>
    obtain ⟨σ', H', J, q⟩ := hs
    exact fin (v := V.non) (u := Value.none) J rfl q
  | brk =>
    obtain ⟨_, _, _, q⟩ := hs
    exact False.elim q
  | cont =>
    obtain ⟨_, _, _, q⟩ := hs
    exact False.elim q
/-- a def: what does not lean on the level -/
structure DefsOk (G : Wd) (T : Tab) (P : List Fn) : Prop where
  fn : ∀ (j : Nat) (x : Str), T.fns[j]? = some x → G.mg x = some (.ref (G.fa j)) ∧ PySem.W.keepIn G.K (.ref (G.fa j)) = true ∧ ∃ (fd : FuncData) (N ps : List Str) (fn : Fn) (nm qual : Str) (params : Arguments) (body : List Stmt) (scope : Scope),
    P[j]? = some fn ∧ ps.length = fn.np ∧ fn.nn = N.length ∧ Binds G.K fd ps [] ∧ FunD G.K nm qual params body scope [] [] (G.fa j) fd ∧ FnScope N ps scope ∧ okSs T N scope fn.body body = true
  free : ∀ x, x ∈ T.free → G.mg x = none
  con : ∀ (j : Nat) (x : Str) (d : D), T.cons[j]? = some (x, d) → ∃ u v, G.mg x = some u ∧ RelV v u ∧ ∀ ι H, DV G ι H d v
  bfn : ∀ x id, (x, id) ∈ T.bfn → G.mg x = some (.builtin id)
  exc : ∀ (c : Nat) (x f : Str), T.exc[c]? = some (x, f) → G.mg x = some (.ref (G.ca c)) ∧ G.fld c = f ∧ ∃ fI, ExF G.P G.K (G.ca c) fI f
  exm : ∀ c c', c < T.exc.length → c' < T.exc.length → PySem.W.exmOne G.K (.ref (G.ca c')) (.ref (G.ca c)) = some (decide (c' = c))
theorem DefsOk.fa (d : DefsOk G T P) : ∀ k, Fa G T P k
  | 0 => ⟨fun j x h => by
      obtain ⟨h1, h2, fd, N, ps, fn, nm, qual, params, body, scope, a1, a2, a3, a4, a5, a6, a7⟩ := d.fn j x h
      exact ⟨h1, h2, fd, ps, fn, a1, a2, a4, fun vs H Q E z => z.1.trans a2.symm, fun A outer s H args us vs Q E _ _ _ _ _ z => by
        obtain ⟨_, ι, ah, ds, _, _, p⟩ := z
        exact p.elim⟩, d.free, d.con, d.bfn, d.exc, d.exm⟩
  | k + 1 => ⟨fun j x h => by
      obtain ⟨h1, h2, fd, N, ps, fn, nm, qual, params, body, scope, a1, a2, a3, a4, a5, a6, a7⟩ := d.fn j x h
      exact ⟨h1, h2, fd, ps, fn, a1, a2, a4, fnG_up (DefsOk.fa d k) a1 a2 a3 a5 a6 a7⟩, d.free, d.con, d.bfn, d.exc, d.exm⟩
end
/-! ### checks that are run -/
def parsOf (st : Stmt) : List Str := (defArgs st).args.map (·.arg)
def scopeB (N ps : List Str) (sc : Scope) : Bool :=
  decide (sc.kind = .function) && (!sc.isCoroutine && (!sc.isGenerator && (decide N.Nodup && (decide (N.take ps.length = ps) && ((ps.all fun x => locB sc x) && (sc.names.all fun y => decide (y.2 ≠ .free)))))))
theorem scopeB_ok {N ps : List Str} {sc : Scope} (h : scopeB N ps sc = true) : FnScope N ps sc := by
  unfold scopeB at h
  obtain ⟨h1, h⟩ := b2 h
  obtain ⟨h2, h⟩ := b2 h
  obtain ⟨h3, h⟩ := b2 h
  obtain ⟨h4, h⟩ := b2 h
  obtain ⟨h5, h⟩ := b2 h
  obtain ⟨h6, h7⟩ := b2 h
  exact ⟨of_decide_eq_true h1, nb h2, nb h3, of_decide_eq_true h4, of_decide_eq_true h5, fun x hx => loc_ok (List.all_eq_true.mp h6 x hx), fun y hy => of_decide_eq_true (List.all_eq_true.mp h7 y hy)⟩
def defB (T : Tab) (N : List Str) (fn : Fn) (st : Stmt) : Bool :=
  scopeB N (parsOf st) (defScope st) && (decide ((parsOf st).length = fn.np) && (decide (fn.nn = N.length) && okSs T N (defScope st) fn.body (defBody st)))
/-! ### the law's end -/
theorem dvs_ints {G : Wd} {ι : List Addr} {H : Hp} : ∀ ns : List Int, DVs G ι H (ns.map D.int) (ns.map V.int)
  | [] => rfl
  | n :: ns => ⟨_, _, rfl, rfl, dvs_ints ns⟩
/-- the law's call, at the place that a row's check calls it from -/
theorem law_callG {P : Program} {w : World} {K : PySem.W.Frag} {mg mb : Str → Option Value} {k : Nat} {fa a : Addr} {fd : FuncData} {x : Str} {sp : Heap → Sp} {s₁ : Shared} {vs : List Value} {ns : List Int}
    (KX : K.In s₁.heap) (hns : s₁.heap.Ns mainGlobals mg) (hb : s₁.heap.Ns builtinsNs mb) (hbb : ∀ x : Str, x ≠ "__name__" → mb x = bootBuiltins x) (hlim : s₁.heap.NoLimit) (hg : s₁.gens = #[])
    (ha : s₁.heap.get? a = some { cls := .type "list", data := .seq vs.toArray }) (hi : IntsAre vs ns) (hl : ns.length ≤ sizeLine) (hr : Room k callerA)
    (F : ∀ base : Heap, K.In base → base.Ns mainGlobals mg → FnG P w K mg base k fa fd [x] (sp base)) (hbind : ∀ (s : Shared) (u : Value), BindsTo s fd ⟨[u], []⟩ [(x, u)])
    (hsp : ∀ (base : Heap) (H : Hp), FzL K H a (ns.map V.int) → sp base [.ref a] H (fun v _ => v = .bl true) fun _ _ _ => False) :
    codeAny (model P w) callerA (.call (.ref fa) ⟨[.ref a], []⟩) (fun r s' => r = .ok (.ret (.bool true)) ∧ OldK s₁.heap s'.heap ∧ s'.os = s₁.os ∧ AllBare s'.gens) s₁ := by
  have rv := vals_ints hi
  have lenV := hi.length
  obtain ⟨H, hO, hS, hok, hA, hK⟩ : ∃ H : Hp, Only H ∧ FzL K H a (ns.map V.int) ∧ HOk P w H s₁.heap ∧ (∀ b, H b ≠ none → b = a) ∧ (H a ≠ none → K.lookup a = none) := by
    cases hk : K.lookup a with
    | some o =>
      have e := KX a o hk
      rw [ha] at e
      cases e
      refine ⟨fun _ => none, fun _ => .inl rfl, .inr fun _ => ⟨.inr ⟨_, vs.toArray, _, hk, rfl, rfl, rfl, by rw [List.size_toArray, lenV]; exact hl, by simpa using rv⟩, _, hk, rfl⟩, fun b u z => ?_, fun b z => absurd rfl z, fun z => absurd rfl z⟩
      have z' : (none : Option HO) = some u := z
      cases z'
    | none =>
      refine ⟨fun b => if b = a then some (.frz { cls := .type "list", data := .seq vs.toArray } (.lst (ns.map V.int))) else none, fun b => ?_, .inl ⟨_, if_pos rfl⟩, fun b u z => ?_, fun b z => ?_, fun _ => rfl⟩
      · by_cases h : b = a
        · exact .inr ⟨_, _, if_pos h⟩
        · exact .inl (if_neg h)
      · by_cases h : b = a
        · have z' := (if_pos h).symm.trans z
          cases z'
          subst h
          exact ⟨ha, by rw [List.length_map]; exact hl, vs, _, rv, ha⟩
        · have z' := (if_neg h).symm.trans z
          cases z'
      · by_cases h : b = a
        · exact h
        · exact absurd (if_neg h) z
  have free : ∀ {b : Addr} {o : Obj}, s₁.heap.get? b = some o → (b = a → False) → H b = none := fun {b o} e d => by
    cases q : H b with
    | none => rfl
    | some u => exact (d (hA b (by rw [q]; simp))).elim
  have nsK : ∀ {b : Addr} {m : Str → Option Value}, s₁.heap.Ns b m → (hidT s₁.heap H).Ns b m := fun {b m} ⟨o, es, ep, e, d, r⟩ => ⟨o, es, ep, hidT_get e (free e fun z => by
    subst z
    rw [ha] at e
    cases e
    cases d), d, r⟩
  have hKb : K.In (hidT s₁.heap H) := fun b o e => hidT_get (KX b o e) (by
    cases q : H b with
    | none => rfl
    | some u =>
      have z : b = a := hA b (by rw [q]; simp)
      subst z
      rw [hK (by rw [q]; simp)] at e
      cases e)
  have hM : Mod K mg (hidT s₁.heap H) := ⟨hKb, nsK hns, ⟨mb, nsK hb, hbb⟩, hlim.elim fun mc h => ⟨mc, nsK h.1, h.2⟩⟩
  have e0 : Env0 P w K mg (hidT s₁.heap H) callerA [] s₁ H := ⟨rfl, hM, fun b o e => of_hidT e, Nat.le_of_eq (hidT_size _ _), trivial, fun b hb => absurd (show b ∈ ([] : List Addr) from hb) (by simp), hok, .of_eq hg⟩
  refine codeAny_mono ((F _ hKb (nsK hns)).run callerA [] s₁ H ⟨[.ref a], []⟩ [.ref a] [.ref a] _ _ hr rfl e0 (hbind s₁ (.ref a)) (.cons rfl .nil) (hsp _ H hS)) fun r s' h => ?_
  cases r with
  | error e =>
    obtain ⟨_, _, _, _, _, _, _, _, _, _, _, _, z⟩ := (show CX P w [] H s₁ (fun _ _ _ => False) e s' from h)
    exact z.elim
  | ok fl =>
    cases fl with
    | next => exact False.elim h
    | brk => exact False.elim h
    | cont => exact False.elim h
    | ret u =>
      obtain ⟨v, H', os, bare, un, hok', r', q⟩ := h
      have q' : v = .bl true := q
      subst q'
      obtain rfl : u = Value.bool true := r'
      refine ⟨rfl, OldK.of_keep fun b o e => ?_, os, bare⟩
      cases q : H b with
      | none => exact un.keep b o e q (by intro z; exact absurd (show b ∈ ([] : List Addr) from z) (by simp)) (by simp)
      | some u =>
        rcases hO b with z | ⟨ob, xs, z⟩
        · rw [q] at z; cases z
        · obtain ⟨e1, _⟩ := hok b _ z
          obtain ⟨e2, _⟩ := hok' b _ (un.frzs b ob _ z)
          rw [e] at e1
          cases e1
          exact e2
/-- a law over a text: its defs, the law's place j among them -/
theorem walk_G {l : PySem.W.OpenLaw} {n k j : Nat} {q : Program} {loose : List Str} {XP : (Str → Option Value) → Heap → Prop} {YP : World → Heap → Prop} {d : DefRec} {T : Tab} {P : List Fn} {x : Str}
    (hn : l.most = some n) (hn2 : n ≤ sizeLine) (hdf : d.params.defaults = []) (hr : Room k callerA) (hj : T.fns[j]? = some d.name)
    (F : ∀ (w : World) (mg : Str → Option Value) (h : Heap), YP w h → h.Ns mainGlobals mg → ∃ (K : PySem.W.Frag) (fa ca : Nat → Addr) (fld : Nat → Str) (fd : FuncData) (nm qual : Str) (params : Arguments) (body : List Stmt) (scope : Scope), K.In h ∧
      (∀ base : Heap, DefsOk ⟨l.prog, w, K, mg, base, fa, ca, fld⟩ T P) ∧ (∀ (s : Shared) (u : Value), BindsTo s fd ⟨[u], []⟩ [(x, u)]) ∧
      FunD K nm qual params body scope [] [] (fa j) fd ∧ (∃ (N : List Str) (fn : Fn), P[j]? = some fn ∧ fn.np = 1 ∧ fn.nn = N.length ∧ FnScope N [x] scope ∧ okSs T N scope fn.body body = true))
    (law : ∀ ns : List Int, ns.length ≤ n → ∃ h', evC P k j [.rol (ns.map .int)] [] = .ok (.bl true) h') :
    PySem.W.WalkO q loose XP YP l.row.toRowW d [] (fun f vs => PySem.call f vs) := by
  refine Att.attach_call hn hdf fun w s₀ s₁ mg mb fa o pm cd doc a vs ns G Y ho hd hcd hmg hobj hints hlen hg => ?_
  obtain ⟨K, fa', ca, fld, fd, nm, qual, params, body, scope, KX, hD, hb, FD, N, fn, hP, hnp, hnn, S, ok⟩ := F w mg _ Y G.T.g
  have hfa : fa = fa' j := by
    have z : mg d.name = some (.ref (fa' j)) := ((hD s₁.heap).fn j _ hj).1
    rw [hmg] at z
    cases z
    rfl
  subst hfa
  cases k with
  | zero =>
    obtain ⟨h', e⟩ := law ns hlen
    simp [evC] at e
  | succ k =>
    refine law_callG (x := x) (sp := fun base => spF ⟨l.prog, w, K, mg, base, fa', ca, fld⟩ P (k + 1) j fn.np) KX G.T.g G.T.b G.T.builtins G.T.nolimit hg hobj hints (Nat.le_trans hlen hn2) hr
      (fun base h1 h2 => fnG_up (G := ⟨l.prog, w, K, mg, base, fa', ca, fld⟩) ((hD base).fa k) hP hnp.symm hnn FD S ok) hb fun base H hS => ?_
    obtain ⟨h', e⟩ := law ns hlen
    refine ⟨hnp.symm, [], [], [.rol (ns.map .int)], ⟨rfl, List.nodup_nil, fun n a c z => by simp at z⟩, ⟨_, [], rfl, ⟨a, _, rfl, hS, ?_⟩, rfl⟩, ?_⟩
    · exact dvs_ints _
    · rw [e]
      exact fun ι' H' v _ _ hv => hv
end RV
set_option Elab.async false
set_option linter.all false
set_option maxRecDepth 100000
set_option autoImplicit false
set_option maxHeartbeats 4000000
/-! Part 11: what the head tells of the text. -/
namespace RV
open PySem PySem.Spec PyProof.Rows L2
/-! ### the module's constants -/
mutual
/-- the value u, as K has it, is the data d -/
def dB (K : PySem.W.Frag) : D → Value → Bool
  | .non, u => (match u with
    | .none => true
    | _ => false)
  | .bl b, u => (match u with
    | .bool c => b == c
    | _ => false)
  | .int i, u => (match u with
    | .int j _ => decide (i = j)
    | _ => false)
  | .str x, u => (match u with
    | .str y _ => decide (x = y)
    | _ => false)
  | .tup ds, u => (match u with
    | .ref a => (match K.lookup a with
      | some ⟨.type c, _, .seq its _, _⟩ => decide (c = "tuple") && (decide (its.size ≤ sizeLine) && dBs K ds its.toList)
      | _ => false)
    | _ => false)
  | .rol ds, u => (match u with
    | .ref a => (match K.lookup a with
      | some ⟨.type c, none, .seq its _, _⟩ => decide (c = "list") && (decide (its.size ≤ sizeLine) && dBs K ds its.toList)
      | _ => false)
    | _ => false)
  | .ref _, _ => false
  | .fn _, _ => false
def dBs (K : PySem.W.Frag) : List D → List Value → Bool
  | [], us => us.isEmpty
  | d :: ds, us => (match us with
    | u :: r => dB K d u && dBs K ds r
    | _ => false)
end
section
variable {K : PySem.W.Frag}
mutual
theorem dB_ok : ∀ (d : D) (u : Value), dB K d u = true → ∃ v, RelV v u ∧ ∀ (G : Wd) (ι : List Addr) (H : Hp), G.K = K → DV G ι H d v
  | .non, u, h => by
    unfold dB at h
    split at h
    · exact ⟨.non, rfl, fun _ _ _ _ => rfl⟩
    · cases h
  | .bl b, u, h => by
    unfold dB at h
    split at h
    · exact ⟨.bl b, by rw [eq_of_beq h]; rfl, fun _ _ _ _ => rfl⟩
    · cases h
  | .int i, u, h => by
    unfold dB at h
    split at h
    · rename_i j t
      exact ⟨.int i, ⟨t, by rw [of_decide_eq_true h]⟩, fun _ _ _ _ => rfl⟩
    · cases h
  | .str x, u, h => by
    unfold dB at h
    split at h
    · rename_i j t
      exact ⟨.str x, ⟨t, by rw [of_decide_eq_true h]⟩, fun _ _ _ _ => rfl⟩
    · cases h
  | .tup ds, u, h => by
    unfold dB at h
    split at h
    · rename_i a
      split at h
      · rename_i c od its n sl q
        obtain ⟨h1, h2⟩ := b2 h
        obtain ⟨h3, h4⟩ := b2 h2
        obtain ⟨vs, r, hv⟩ := dBs_ok ds its.toList h4
        exact ⟨.ref a, rfl, fun G ι H e => ⟨a, vs, rfl, by rw [e]; exact .inr ⟨_, its, n, q, congrArg Value.type (of_decide_eq_true h1), rfl, of_decide_eq_true h3, r⟩, hv G ι H e⟩⟩
      · cases h
    · cases h
  | .rol ds, u, h => by
    unfold dB at h
    split at h
    · rename_i a
      split at h
      · rename_i c its n sl q
        obtain ⟨h1, h2⟩ := b2 h
        obtain ⟨h3, h4⟩ := b2 h2
        obtain ⟨vs, r, hv⟩ := dBs_ok ds its.toList h4
        exact ⟨.ref a, rfl, fun G ι H e => ⟨a, vs, rfl, by rw [e]; exact .inr fun H' => ⟨.inr ⟨_, its, n, q, congrArg Value.type (of_decide_eq_true h1), rfl, rfl, of_decide_eq_true h3, r⟩, _, q, congrArg Value.type (of_decide_eq_true h1)⟩, hv G ι H e⟩⟩
      · cases h
    · cases h
  | .ref _, u, h => by simp [dB] at h
  | .fn _, u, h => by simp [dB] at h
theorem dBs_ok : ∀ (ds : List D) (us : List Value), dBs K ds us = true → ∃ vs, Vals vs us ∧ ∀ (G : Wd) (ι : List Addr) (H : Hp), G.K = K → DVs G ι H ds vs
  | [], us, h => by
    cases us with
    | nil => exact ⟨[], .nil, fun _ _ _ _ => rfl⟩
    | cons _ _ => simp [dBs] at h
  | d :: ds, us, h => by
    cases us with
    | nil => simp [dBs] at h
    | cons u r =>
      unfold dBs at h
      obtain ⟨h1, h2⟩ := b2 h
      obtain ⟨v, q1, q2⟩ := dB_ok d u h1
      obtain ⟨vs, q3, q4⟩ := dBs_ok ds r h2
      exact ⟨v :: vs, .cons q1 q3, fun G ι H e => ⟨v, vs, rfl, q2 G ι H e, q4 G ι H e⟩⟩
end
end
/-! ### the hook -/
def conB (K : PySem.W.Frag) (p : Str × D) : Bool := match PySem.W.nsIn K mainGlobals p.1 with
  | some (some u) => dB K p.2 u
  | _ => false
def bfnB (K : PySem.W.Frag) (p : Str × String) : Bool := match PySem.W.nsIn K mainGlobals p.1 with
  | some (some (.builtin id)) => decide (id = p.2)
  | _ => false
/-- all that a text's table says of the module -/
def tabB (T : Tab) (K : PySem.W.Frag) : Bool := (T.fns.all fun x => (He.Fa.glo x).ok K) && ((T.free.all fun x => (He.Fa.free x).ok K) && ((T.cons.all fun p => conB K p) && (T.bfn.all fun p => bfnB K p)))
/-! ### own errors -/
/-- one own error: its name, its field, its __init__ -/
structure ExD where
  name : Str
  fld : Str
  st : Stmt
abbrev FnE : Type := Option (Str × Str × Arguments × FuncBody × Scope × Addr × List Str × Addr)
def exI (K : PySem.W.Frag) (x : Str) : Addr := He.ma K (He.ga K x) "__init__"
def exObs (K : PySem.W.Frag) (x : Str) : FnE := match K.lookup (exI K x) with
  | some ⟨_, _, .func fd, _⟩ => some (fd.name, fd.qualname, fd.params, fd.body, fd.scope, fd.globals, fd.closure.map (·.1), fd.builtins)
  | _ => none
def ExD.val (d : ExD) : FnE := some ("__init__", d.name ++ (".__init__" : Str), defArgs d.st, .stmts (defBody d.st), defScope d.st, mainGlobals, ["__class__"], builtinsNs)
def clsB (K : PySem.W.Frag) (C : Addr) : Bool := match K.lookup C with
  | some ⟨.type "type", _, .cls cd, sl⟩ => (match cd.mro, sl.toList with
    | .ref C' :: bm, [_, _, _, _, some (.builtin n), _] => C' == C && (n == "ValueError.__new__" && (!cd.hasDel && (cd.hasDict && PySem.HandSPX.refsVE bm)))
    | _, _ => false)
  | _ => false
theorem clsB_ok {K : PySem.W.Frag} {C : Addr} (q : clsB K C = true) : ∃ nm q N bs bm sn sub ab col dd k0 k1 k2 k3 k5, K.lookup C = some (excClassObj nm q C N bs bm true sn sub ab col dd k0 k1 k2 k3 k5 "ValueError.__new__") ∧ PySem.HandSPX.refsVE bm = true := by
  unfold clsB at q
  split at q
  · rename_i dd cd sl ho
    split at q
    · rename_i C' bm k0 k1 k2 k3 n k5 hm hs
      obtain ⟨q1, q⟩ := b2 q
      obtain ⟨q2, q⟩ := b2 q
      obtain ⟨q3, q⟩ := b2 q
      obtain ⟨q4, q5⟩ := b2 q
      have e1 : C' = C := eq_of_beq q1
      have e2 : n = "ValueError.__new__" := eq_of_beq q2
      subst e1 e2
      have hdel := nb q3
      obtain ⟨nm, bs, mro, ns, qn, hd, sn, sub, ab, col, del⟩ := cd
      dsimp only at hm hdel q4
      subst hm hdel q4
      have hsl : sl = #[k0, k1, k2, k3, some (.builtin "ValueError.__new__"), k5] := by
        obtain ⟨l⟩ := sl
        simp only at hs
        rw [hs]
      subst hsl
      exact ⟨nm, qn, ns, bs, bm, sn, sub, ab, col, dd, k0, k1, k2, k3, k5, ho, q5⟩
    · cases q
  · cases q
def isNone : Value → Bool
  | .none => true
  | _ => false
/-- __init__'s function object: no defaults, its code's file, its class's cell -/
def exFn (prog : Program) (K : PySem.W.Frag) (C : Addr) (q : Str) (fI : Addr) : Bool := match K.lookup fI with
  | some ⟨_, _, .func fd, _⟩ => isNone fd.defaults && (isNone fd.kwdefaults && ((match fd.code with
    | .ref cda => PySem.W.codeIn K (.ref cda) q && (match K.lookup cda with
      | some ⟨_, _, .fields vs, _⟩ => (match (vs[2]? : Option Value) with
        | some (Value.str file _) => (prog.main.file : Str) == file
        | _ => false)
      | _ => false)
    | _ => false) && (match fd.closure with
    | [(_, cc)] => (match K.lookup cc with
      | some ⟨_, _, .cell (some (.ref C')), _⟩ => C' == C
      | _ => false)
    | _ => false)))
  | _ => false
def exB (prog : Program) (K : PySem.W.Frag) (d : ExD) : Bool :=
  He.eqO (PySem.W.nsIn K mainGlobals d.name) (some (some (.ref (He.ga K d.name)))) && (clsB K (He.ga K d.name) && (He.eqO (PySem.W.findIn K (.ref (He.ga K d.name)) "__setattr__") (some (some (.builtin "object.__setattr__"))) &&
  (decide (PySem.W.subIn K (.ref (He.ga K d.name)) (.type "BaseException") = some true) && (decide (PySem.W.typeIn K (.ref (He.ga K d.name)) = some (.type "type")) && (PySem.W.keepIn K (.ref (He.ga K d.name)) &&
  (He.eqO (PySem.W.findIn K (.ref (He.ga K d.name)) "__getattribute__") (some (some (.builtin "BaseException.__getattribute__"))) && (He.eqO (PySem.W.findIn K (.ref (He.ga K d.name)) "__getattr__") (some none) &&
  (He.eqO (PySem.W.findIn K (.ref (He.ga K d.name)) d.fld) (some none) && (He.eqO (PySem.W.findIn K (.ref (He.ga K d.name)) "__init__") (some (some (.ref (exI K d.name)))) && (decide (PySem.W.typeIn K (.ref (exI K d.name)) = some (.type "function")) &&
  (PySem.W.hasDictIn K (He.ga K d.name) && (He.eqO (PySem.W.ks_superIn K (He.ga K d.name) (He.ga K d.name) "__init__") (some (some (.builtin "ValueError.__init__"))) && (decide (PySem.W.subIn K (.ref (He.ga K d.name)) (.type "ValueError") = some true) &&
  (decide (PySem.W.mroIn K (He.ga K d.name) (.ref (He.ga K d.name)) = some true) && (He.eqO (PySem.W.nsIn K cStatics "thirdparty.any") (some none) && (He.eqO (PySem.W.nsIn K mainGlobals "super") (some none) && exFn prog K (He.ga K d.name) (d.name ++ (".__init__" : Str)) (exI K d.name)))))))))))))))))
/-- the text of an own error's __init__ -/
structure ExP (prog : Program) (d : ExD) : Prop where
  top : (prog.main.scope.names.lookup ("super" : Str)).isSome = false
  txt : ∃ (P msg : Str) (j : Nat) (p1 p2 a1 a2 a3 a4 a5 a6 b1 b2 b3 b4 : Pos), defArgs d.st = iArgs P p1 p2 ∧ defBody d.st = iBody d.fld P msg j a1 a2 a3 a4 a5 a6 b1 b2 b3 b4 ∧ ISc P (defScope d.st) ∧ P ≠ "self" ∧ (P == ("__debug__" : Str)) = false ∧ msg.length ≤ 1000 ∧
    (∀ (nm q : Str) (sc : Scope) (doc pm ct : Value) (an : Option Addr) (cda cc : Addr) (x v : Value), bindArgs (PySem.W.ksFn nm q (iArgs P p1 p2) (iBody d.fld P msg j a1 a2 a3 a4 a5 a6 b1 b2 b3 b4) sc .none .none doc pm an (.ref cda) ct cc) ⟨[x, v], []⟩ = pure [(("self" : Str), x), (P, v)]) ∧
    (∀ env : PySem.Env, ∃ pl, eval (.Call (.Attribute (.Call (.Name "super" a1) [] [] a2) "__init__" a3) [.Constant (.str msg) j a4] [] a5) env = (do
      let ov ← attributeBase (.Call (.Name "super" a1) [] [] a2) "__init__" env (eval (.Call (.Name "super" a1) [] [] a2) env)
      standAt a3.atName
      let (f, first) ← holding [ov] (getMethod ov "__init__" pl)
      callWith a5 f first (backTo a5 (starEach [.Constant (.str msg) j a4] env)) []))
theorem exF_ok {prog : Program} {K : PySem.W.Frag} {d : ExD} (p : ExP prog d) (c : exB prog K d = true) (e : exObs K d.name = d.val) : PySem.W.nsIn K mainGlobals d.name = some (some (.ref (He.ga K d.name))) ∧ ExF prog K (He.ga K d.name) (exI K d.name) d.fld := by
  unfold exB at c
  obtain ⟨c1, c⟩ := b2 c
  obtain ⟨c2, c⟩ := b2 c
  obtain ⟨c3, c⟩ := b2 c
  obtain ⟨c4, c⟩ := b2 c
  obtain ⟨c5, c⟩ := b2 c
  obtain ⟨c6, c⟩ := b2 c
  obtain ⟨c7, c⟩ := b2 c
  obtain ⟨c8, c⟩ := b2 c
  obtain ⟨c9, c⟩ := b2 c
  obtain ⟨c10, c⟩ := b2 c
  obtain ⟨c11, c⟩ := b2 c
  obtain ⟨c12, c⟩ := b2 c
  obtain ⟨c13, c⟩ := b2 c
  obtain ⟨c14, c⟩ := b2 c
  obtain ⟨c15, c⟩ := b2 c
  obtain ⟨c16, c⟩ := b2 c
  obtain ⟨c17, c18⟩ := b2 c
  refine ⟨He.eqO_ok c1, ⟨clsB_ok c2, He.eqO_ok c3, of_decide_eq_true c4, of_decide_eq_true c5, c6⟩, He.eqO_ok c7, He.eqO_ok c8, He.eqO_ok c9, He.eqO_ok c10, of_decide_eq_true c11, c12, He.eqO_ok c13, of_decide_eq_true c14, of_decide_eq_true c15, He.eqO_ok c16, He.eqO_ok c17, p.top, ?_⟩
  obtain ⟨P, msg, j, p1, p2, a1, a2, a3, a4, a5, a6, b1, b2', b3, b4, h1, h2, h3, h4, h5, h6, h7, h8⟩ := p.txt
  generalize He.ga K d.name = C at *
  unfold exObs at e
  generalize exI K d.name = fI at *
  unfold exFn at c18
  cases q : K.lookup fI with
  | none => rw [q] at c18; cases c18
  | some o =>
    obtain ⟨oc, od, dt, osl⟩ := o
    rw [q] at c18 e
    cases dt with
    | func fd =>
      obtain ⟨n1, n2, n3, n4, n5, n6, n7, n8, n9, n10, n11, n12, n13, n14, n15⟩ := fd
      dsimp only at c18
      have e2 : (some (n1, n2, n3, n4, n5, n6, n7.map (·.1), n15) : FnE) = some (("__init__" : Str), d.name ++ (".__init__" : Str), defArgs d.st, .stmts (defBody d.st), defScope d.st, mainGlobals, [("__class__" : Str)], builtinsNs) := e
      simp only [Option.some.injEq, Prod.mk.injEq] at e2
      obtain ⟨g1, g2, g3, g4, g5, g6, g7, g8⟩ := e2
      subst g1 g2 g3 g4 g5 g6 g8
      obtain ⟨x1, x⟩ := b2 c18
      obtain ⟨x2, x⟩ := b2 x
      obtain ⟨x3, x4⟩ := b2 x
      have f1 : n8 = .none := by cases n8 <;> first | rfl | cases x1
      have f2 : n9 = .none := by cases n9 <;> first | rfl | cases x2
      subst f1 f2
      split at x4
      · rename_i nm cc hq0
        have g7' : [nm] = [("__class__" : Str)] := g7
        have hnm : nm = "__class__" := List.head_eq_of_cons_eq g7'
        subst hnm
        split at x4
        · rename_i cl cld C' csl hcc
          have hC : C' = C := eq_of_beq x4
          subst hC
          split at x3
          · rename_i cda
            obtain ⟨y1, y2⟩ := b2 x3
            split at y2
            · rename_i ccl cdd vs ccs hcda
              split at y2
              · rename_i file tf hvs
                exact ⟨P, msg, defScope d.st, oc, ccl, cl, od, cdd, cld, .none, .none, n10, n11, n14, n12, osl, ccs, csl, cda, cc, vs, file, tf, "__init__", d.name ++ (".__init__" : Str), j, p1, p2, a1, a2, a3, a4, a5, a6, b1, b2', b3, b4, h3, h4, h5, h6, by rw [h1, h2], y1, hcda, hvs, y2, hcc, fun x v => h7 _ _ _ _ _ _ _ _ _ x v, h8⟩
              · cases y2
            · cases y2
          · cases x3
        · cases x4
      · cases x4
    | _ => cases c18
def exmB (K : PySem.W.Frag) (T : Tab) : Bool := (List.range T.exc.length).all fun c => (List.range T.exc.length).all fun c' =>
  decide (PySem.W.exmOne K (.ref (He.ga K (T.exc.getD c' (Str.empty, Str.empty)).1)) (.ref (He.ga K (T.exc.getD c (Str.empty, Str.empty)).1)) = some (decide (c' = c)))
/-! ### the hook -/
abbrev AlR : Type := Bool × He.AlD × List FnE
def chkR (prog : Program) (T : Tab) (ex : List ExD) (K : PySem.W.Frag) : Bool := tabB T K && (exmB K T && ex.all fun d => exB prog K d)
def obsR (prog : Program) (T : Tab) (ex : List ExD) (fn : List He.DefD) (K : PySem.W.Frag) : AlR := (chkR prog T ex K, He.obsD [] fn K, ex.map fun d => exObs K d.name)
def valR (ex : List ExD) (fn : List He.DefD) : AlR := (true, He.valD fn, ex.map ExD.val)
def obsRG (n : Nat) (prog : Program) (T : Tab) (ex : List ExD) (fn : List He.DefD) (g : Addr → Option Obj) : AlR := obsR prog T ex fn (He.frG g (cStatics :: He.asD g n))
def hookR (n : Nat) (prog : Program) (T : Tab) (ex : List ExD) (fn : List He.DefD) : PySem.W.Hook where
  α := AlR
  obs := fun s => obsRG n prog T ex fn s.heap.get?
  val := fun _ => valR ex fn
  says := fun _ h => ∃ K : PySem.W.Frag, K.In h ∧ chkR prog T ex K = true ∧ He.SaysD [] fn K ∧ (ex.map fun d => exObs K d.name) = ex.map ExD.val
  of := fun _ _ e => ⟨_, He.frG_in, congrArg (fun z : AlR => z.1) e, congrArg (fun z : AlR => z.2.1) e, congrArg (fun z : AlR => z.2.2) e⟩
  keeps := fun _ _ _ ⟨K, hK, c⟩ k => ⟨K, PySem.W.Frag.In.keeps hK k, c⟩
theorem obsRG_eq {n : Nat} {prog : Program} {T : Tab} {ex : List ExD} {fn : List He.DefD} {g : Addr → Option Obj} {s : Shared} (h : ∀ a, g a = s.heap.get? a) : obsRG n prog T ex fn g = (hookR n prog T ex fn).obs s := by
  have e : g = s.heap.get? := funext h
  rw [e] <;> rfl
theorem conB_ok {K : PySem.W.Frag} {h : Heap} {mg : Str → Option Value} (X : K.In h) (G : h.Ns mainGlobals mg) {p : Str × D} (c : conB K p = true) : ∃ u v, mg p.1 = some u ∧ RelV v u ∧ ∀ (G : Wd) (ι : List Addr) (H : Hp), G.K = K → DV G ι H p.2 v := by
  unfold conB at c
  split at c
  · rename_i u e
    obtain ⟨v, r, hv⟩ := dB_ok _ _ c
    exact ⟨u, v, PySem.W.mg_of X G e, r, hv⟩
  · cases c
theorem bfnB_ok {K : PySem.W.Frag} {h : Heap} {mg : Str → Option Value} (X : K.In h) (G : h.Ns mainGlobals mg) {p : Str × String} (c : bfnB K p = true) : mg p.1 = some (.builtin p.2) := by
  unfold bfnB at c
  split at c
  · rename_i u e
    rw [← of_decide_eq_true c]
    exact PySem.W.mg_of X G e
  · cases c
/-! ### a def by its statement -/
def dOf (x : Str) (st : Stmt) : He.DefD := ⟨(x, none), x, x, defArgs st, defBody st, defScope st, [], []⟩
/-- one def's share: its statement, its names' slots, its core; that a call binds -/
structure Part (T : Tab) (N : List Str) (fn : Fn) (st : Stmt) : Prop where
  ok : defB T N fn st = true
  bind : ∀ (x qual : Str) (body : List Stmt) (scope : Scope) (kV doc pm : Value) (an : Option Addr) (cdv ct : Value) (us : List Value), us.length = (parsOf st).length → bindArgs (PySem.W.fnOf x qual (defArgs st) body scope .none kV doc pm an cdv ct) ⟨us, []⟩ = pure ((parsOf st).zip us)
inductive Parts (T : Tab) : List Str → List Stmt → List Fn → Prop where
  | nil : Parts T [] [] []
  | cons {x : Str} {N : List Str} {fn : Fn} {st : Stmt} {xs : List Str} {sts : List Stmt} {fns : List Fn} : Part T N fn st → Parts T xs sts fns → Parts T (x :: xs) (st :: sts) (fn :: fns)
theorem Parts.at_ {T : Tab} : ∀ {xs : List Str} {sts : List Stmt} {fns : List Fn}, Parts T xs sts fns → ∀ (j : Nat) (x : Str), xs[j]? = some x → ∃ st fn N, sts[j]? = some st ∧ fns[j]? = some fn ∧ Part T N fn st
  | _, _, _, .nil, j, x, h => by simp at h
  | _, _, _, .cons p ps, 0, x, h => ⟨_, _, _, rfl, rfl, p⟩
  | _, _, _, .cons p ps, j + 1, x, h => by
    rw [List.getElem?_cons_succ] at h
    obtain ⟨st, fn, N, h1, h2, h3⟩ := ps.at_ j x h
    exact ⟨st, fn, N, by rw [List.getElem?_cons_succ]; exact h1, by rw [List.getElem?_cons_succ]; exact h2, h3⟩
def defsOf (T : Tab) (sts : List Stmt) : List He.DefD := List.zipWith dOf T.fns sts
theorem zw_get {xs : List Str} {sts : List Stmt} {j : Nat} {x : Str} {st : Stmt} (h1 : xs[j]? = some x) (h2 : sts[j]? = some st) : (List.zipWith dOf xs sts)[j]? = some (dOf x st) := by
  rw [List.getElem?_zipWith, h1, h2]
def caR (T : Tab) (K : PySem.W.Frag) (c : Nat) : Addr := He.ga K (T.exc.getD c (Str.empty, Str.empty)).1
def fldR (T : Tab) (c : Nat) : Str := (T.exc.getD c (Str.empty, Str.empty)).2
theorem defs_ok {T : Tab} {sts : List Stmt} {P : List Fn} {K : PySem.W.Frag} {h : Heap} {mg : Str → Option Value} {ex : List ExD} {Pg : Program} (ps : Parts T T.fns sts P) (X : K.In h) (G : h.Ns mainGlobals mg) (hc : chkR Pg T ex K = true) (c : He.SaysD [] (defsOf T sts) K)
    (hex : (ex.map fun d => exObs K d.name) = ex.map ExD.val) (hT : T.exc = ex.map fun d => (d.name, d.fld)) (hp : ∀ d ∈ ex, ExP Pg d)
    (w : World) (base : Heap) : DefsOk ⟨Pg, w, K, mg, base, fun j => He.ga K (T.fns.getD j Str.empty), caR T K, fldR T⟩ T P := by
  unfold chkR at hc
  obtain ⟨ht, hc⟩ := b2 hc
  obtain ⟨hm, hc⟩ := b2 hc
  unfold tabB at ht
  obtain ⟨t1, ht⟩ := b2 ht
  obtain ⟨t2, ht⟩ := b2 ht
  obtain ⟨t3, t4⟩ := b2 ht
  refine ⟨fun j x hx => ?_, fun x hx => He.free_ok X G (List.all_eq_true.mp t2 x hx), fun j x d hj => ?_, fun x id hx => bfnB_ok X G (List.all_eq_true.mp t4 _ hx), fun c x f hx => ?_, fun c c' h1 h2 => ?_⟩
  · obtain ⟨st, fn, N, h1, h2, p⟩ := ps.at_ j x hx
    have e : T.fns.getD j Str.empty = x := by rw [List.getD_eq_getElem?_getD, hx]; rfl
    obtain ⟨fd, FD⟩ := c.def_ j (d := dOf x st) (zw_get hx h1)
    obtain ⟨c1, c2⟩ := b2 p.ok
    obtain ⟨c2, c3⟩ := b2 c2
    obtain ⟨c3, c4⟩ := b2 c3
    have S := scopeB_ok c1
    show mg x = some (.ref (He.ga K (T.fns.getD j Str.empty))) ∧ PySem.W.keepIn K (.ref (He.ga K (T.fns.getD j Str.empty))) = true ∧ _
    rw [e]
    refine ⟨He.glo_ok X G (List.all_eq_true.mp t1 x (List.mem_of_getElem? hx)), FD.kp, fd, N, parsOf st, fn, x, x, defArgs st, defBody st, defScope st, h2, of_decide_eq_true c2, of_decide_eq_true c3, FunD.bindsN FD fun kV doc pm an cdv ct us hl => p.bind x x (defBody st) (defScope st) kV doc pm an cdv ct us hl, ?_, S, c4⟩
    show FunD K x x (defArgs st) (defBody st) (defScope st) [] [] (He.ga K (T.fns.getD j Str.empty)) fd
    rw [e]
    exact FD
  · obtain ⟨u, v, q1, q2, q3⟩ := conB_ok X G (List.all_eq_true.mp t3 _ (List.mem_of_getElem? hj))
    exact ⟨u, v, q1, q2, fun ι H => q3 _ ι H rfl⟩
  · have hd : ∃ d, ex[c]? = some d ∧ d.name = x ∧ d.fld = f := by
      rw [hT, List.getElem?_map] at hx
      cases q : ex[c]? with
      | none => rw [q] at hx; cases hx
      | some d =>
        rw [q] at hx
        have := Option.some.inj hx
        exact ⟨d, rfl, congrArg (·.1) this, congrArg (·.2) this⟩
    obtain ⟨d, e1, rfl, rfl⟩ := hd
    have eo : exObs K d.name = d.val := by
      have e2 : (ex.map fun d => exObs K d.name)[c]? = (ex.map ExD.val)[c]? := by rw [hex]
      rw [List.getElem?_map, List.getElem?_map, e1] at e2
      exact Option.some.inj e2
    obtain ⟨q1, q2⟩ := exF_ok (hp d (List.mem_of_getElem? e1)) (List.all_eq_true.mp hc d (List.mem_of_getElem? e1)) eo
    have g : T.exc.getD c (Str.empty, Str.empty) = (d.name, d.fld) := by rw [List.getD_eq_getElem?_getD, hx]; rfl
    show mg d.name = some (.ref (caR T K c)) ∧ fldR T c = d.fld ∧ ∃ fI, ExF Pg K (caR T K c) fI d.fld
    unfold caR fldR
    rw [g]
    exact ⟨PySem.W.mg_of X G q1, rfl, _, q2⟩
  · exact of_decide_eq_true (List.all_eq_true.mp (List.all_eq_true.mp hm c (List.mem_range.mpr h1)) c' (List.mem_range.mpr h2))
/-- a law over a text by its head -/
theorem walk_R {l : PySem.W.OpenLaw} {n k j m : Nat} {q : Program} {loose : List Str} {XP : (Str → Option Value) → Heap → Prop} {d : DefRec} {T : Tab} {sts : List Stmt} {P : List Fn} {x : Str} {st : Stmt} {ex : List ExD}
    (hn : l.most = some n) (hn2 : n ≤ sizeLine) (hdf : d.params.defaults = []) (hr : Room k callerA) (hj : T.fns[j]? = some d.name) (hst : sts[j]? = some st) (hp : parsOf st = [x]) (ps : Parts T T.fns sts P) (hT : T.exc = ex.map fun d => (d.name, d.fld)) (hpx : ∀ d ∈ ex, ExP l.prog d)
    (law : ∀ ns : List Int, ns.length ≤ n → ∃ h', evC P k j [.rol (ns.map .int)] [] = .ok (.bl true) h') :
    PySem.W.WalkO q loose XP (hookR m l.prog T ex (defsOf T sts)).says l.row.toRowW d [] (fun f vs => PySem.call f vs) := by
  refine walk_G (j := j) (T := T) (P := P) (x := x) hn hn2 hdf hr hj (fun w mg h Y G => ?_) law
  obtain ⟨K, KX, ht, c, hex⟩ := Y
  obtain ⟨st', fn, N, h1, h2, p⟩ := ps.at_ j _ hj
  rw [hst] at h1
  cases h1
  obtain ⟨fd, FD⟩ := c.def_ j (d := dOf d.name st) (zw_get hj hst)
  obtain ⟨c1, c2⟩ := b2 p.ok
  obtain ⟨c2, c3⟩ := b2 c2
  obtain ⟨c3, c4⟩ := b2 c3
  have S := scopeB_ok c1
  rw [hp] at S
  have c2' := of_decide_eq_true c2
  rw [hp] at c2'
  have e : T.fns.getD j Str.empty = d.name := by rw [List.getD_eq_getElem?_getD, hj]; rfl
  refine ⟨K, fun j => He.ga K (T.fns.getD j Str.empty), caR T K, fldR T, fd, d.name, d.name, defArgs st, defBody st, defScope st, KX, fun base => defs_ok ps KX G ht c hex hT hpx w base, fun s u => ?_, ?_, N, fn, h2, c2'.symm, of_decide_eq_true c3, S, c4⟩
  · exact FunD.bindsA (ps := [x]) FD (fun kV doc pm an cdv ct us hl => by
      have z := p.bind d.name d.name (defBody st) (defScope st) kV doc pm an cdv ct us
      rw [hp] at z
      exact z hl) s [u] rfl
  · show FunD K d.name d.name (defArgs st) (defBody st) (defScope st) [] [] (He.ga K (T.fns.getD j Str.empty)) fd
    rw [e]
    exact FD
end RV
set_option Elab.async false
set_option linter.all false
set_option maxRecDepth 100000
set_option autoImplicit false
set_option maxHeartbeats 4000000
/-! What the laws share: their own defs, loops, small evaluator lemmas, quotients. -/
namespace RV
open PySem PySem.Spec PyProof.Rows L2
/-! from Law0 -/
/-- a call, by its body -/
def fin (h : AH) (fl : Fl) (h' : AH) : R D := match fl with
  | .rt d => sweep h d h'
  | .nx _ => sweep h .non h'
  | _ => .bad
theorem evC_at {P : List Fn} {k j : Nat} {fn : Fn} {ds : List D} {h : AH} (hP : P[j]? = some fn) (hl : ds.length = fn.np) : evC P (k + 1) j ds h = (evSs (evC P k) fn.body (ds.map some ++ List.replicate (fn.nn - fn.np) none) h).bind (fin h) := by
  simp only [evC, hP]
  rw [if_pos hl]
  rfl
theorem sweep_len {h h' : AH} {d : D} (e : h'.length = h.length) : sweep h d h' = .ok d h' := by
  unfold sweep
  split
  · rename_i c
    rw [← c.1, ← e, List.take_length]
  · rfl
@[simp] theorem sweep_self {h : AH} {d : D} : sweep h d h = .ok d h := sweep_len rfl
/-- the values drawn from: n's cell holds m, then five ints -/
def StOk (h : AH) (n m B : Nat) : Prop := ∃ (xs : List Int) (p v c s t : Int), h[n]? = some (.lst [.ref m, .int p, .int v, .int c, .int s, .int t]) ∧ h[m]? = some (.lst (xs.map .int)) ∧ n ≠ m ∧ 0 ≤ p ∧ 0 ≤ s ∧ s < 2147483648 ∧ 0 ≤ t ∧ t ≤ B
def drawB : CSs :=
    (.cons (.ifs (.and (.cmp .Eq (.sub (.var 0) (.lit (.int (3)))) (.lit (.int (0)))) (.cmp .Lt (.sub (.var 0) (.lit (.int (1)))) (.blt .len (.cons (.sub (.var 0) (.lit (.int (0)))) .nil)))) (.cons (.asg (.tup (.cons (.sub (.var 0) (.lit (.int (2)))) (.cons (.sub (.var 0) (.lit (.int (3)))) (.cons (.sub (.var 0) (.lit (.int (1)))) .nil)))) (.tup (.cons (.sub (.sub (.var 0) (.lit (.int (0)))) (.sub (.var 0) (.lit (.int (1))))) (.cons (.lit (.int (60))) (.cons (.op2 .Add (.sub (.var 0) (.lit (.int (1)))) (.lit (.int (1)))) .nil)))))
    .nil) .nil)
    (.cons (.ifs (.cmp .Gt (.sub (.var 0) (.lit (.int (3)))) (.lit (.int (0)))) (.cons (.asg (.name 2) (.op2 .Mod (.blt .int (.cons (.sub (.var 0) (.lit (.int (2)))) .nil)) (.var 1)))
    (.cons (.asg (.sub (.var 0) (.lit (.int (2)))) (.op2 .FloorDiv (.sub (.var 0) (.lit (.int (2)))) (.var 1)))
    (.cons (.asg (.sub (.var 0) (.lit (.int (3)))) (.ite (.cmp .Gt (.sub (.var 0) (.lit (.int (2)))) (.lit (.int (0)))) (.op2 .Sub (.sub (.var 0) (.lit (.int (3)))) (.lit (.int (1)))) (.lit (.int (0)))))
    (.cons (.ret (.var 2))
    .nil)))) .nil)
    (.cons (.asg (.sub (.var 0) (.lit (.int (5)))) (.op2 .Add (.sub (.var 0) (.lit (.int (5)))) (.lit (.int (1)))))
    (.cons (.asg (.sub (.var 0) (.lit (.int (4)))) (.op2 .Mod (.blt .int (.cons (.op2 .Add (.op2 .Add (.op2 .Mult (.sub (.var 0) (.lit (.int (4)))) (.lit (.int (48271)))) (.op2 .Mult (.op2 .Mult (.sub (.var 0) (.lit (.int (5)))) (.sub (.var 0) (.lit (.int (5))))) (.lit (.int (69621))))) (.lit (.int (11)))) .nil)) (.lit (.int (2147483647)))))
    (.cons (.ret (.op2 .Mod (.blt .int (.cons (.op2 .FloorDiv (.sub (.var 0) (.lit (.int (4)))) (.lit (.int (13)))) .nil)) (.var 1)))
    .nil)))))
theorem at6 {a0 a1 a2 a3 a4 a5 : D} : L2.atI [a0, a1, a2, a3, a4, a5] 0 = some a0 ∧ L2.atI [a0, a1, a2, a3, a4, a5] 1 = some a1 ∧ L2.atI [a0, a1, a2, a3, a4, a5] 2 = some a2 ∧ L2.atI [a0, a1, a2, a3, a4, a5] 3 = some a3 ∧ L2.atI [a0, a1, a2, a3, a4, a5] 4 = some a4 ∧ L2.atI [a0, a1, a2, a3, a4, a5] 5 = some a5 := ⟨rfl, rfl, rfl, rfl, rfl, rfl⟩
theorem ix6 : L2.ixN 6 0 = some 0 ∧ L2.ixN 6 1 = some 1 ∧ L2.ixN 6 2 = some 2 ∧ L2.ixN 6 3 = some 3 ∧ L2.ixN 6 4 = some 4 ∧ L2.ixN 6 5 = some 5 := ⟨rfl, rfl, rfl, rfl, rfl, rfl⟩
theorem lt_big {i : Int} (h : i.natAbs < 2 ^ 8000) : i.natAbs < BIG := Nat.lt_trans h (Nat.pow_lt_pow_right (by decide) (by decide))
theorem lt_dbig {i : Int} (h : i.natAbs < 2 ^ 8000) : i.natAbs < DBIG := Nat.lt_trans h (Nat.pow_lt_pow_right (by decide) (by decide))
theorem lt_pw {i : Int} {a : Nat} (h : i.natAbs < a) (ha : a ≤ 2 ^ 8000) : i.natAbs < 2 ^ 8000 := Nat.lt_of_lt_of_le h ha

/-! from Law1 -/
theorem subP_ref {h : AH} {n : Nat} {l : List D} {i : Int} {d : D} (e : h[n]? = some (.lst l)) (q : L2.atI l i = some d) : subP (.ref n) (.int i) h = .ok d h := by
  simp only [subP, seqOf, e, q]
theorem setP_ref {h : AH} {n : Nat} {l : List D} {i : Int} {j : Nat} {d : D} (e : h[n]? = some (.lst l)) (q : L2.ixN l.length i = some j) : setP (.ref n) (.int i) d h = .ok () (h.set n (.lst (l.set j d))) := by
  simp only [setP, e, q]
theorem hset {h : AH} {n : Nat} {c c' : Cell} (e : h[n]? = some c) : (h.set n c')[n]? = some c' := List.getElem?_set_self (List.getElem?_eq_some_iff.mp e).1
theorem hset_ne {h : AH} {n m : Nat} {c : Cell} (e : n ≠ m) : (h.set n c)[m]? = h[m]? := List.getElem?_set_ne e
theorem ss_nx {call : Call} {c : CS} {cs : CSs} {env env1 : En} {h h1 : AH} (e : evS call c env h = .ok (.nx env1) h1) : evSs call (.cons c cs) env h = evSs call cs env1 h1 := by
  rw [evSs, e]
  rfl
theorem ss_rt {call : Call} {c : CS} {cs : CSs} {env : En} {h h1 : AH} {d : D} (e : evS call c env h = .ok (.rt d) h1) : evSs call (.cons c cs) env h = .ok (.rt d) h1 := by
  rw [evSs, e]
  rfl
section
variable {h : AH} {n m : Nat} {xs : List Int} {p v c s t : Int} {call : Call} {many : Int} {x : Option D}
/-- the first statement: a new cell is begun -/
theorem draw1 (e : h[n]? = some (.lst [.ref m, .int p, .int v, .int c, .int s, .int t])) (em : h[m]? = some (.lst (xs.map .int))) (nm : n ≠ m) (hp : 0 ≤ p) :
    ∃ p' v' c', 0 ≤ p' ∧ evS call (.ifs (.and (.cmp .Eq (.sub (.var 0) (.lit (.int (3)))) (.lit (.int (0)))) (.cmp .Lt (.sub (.var 0) (.lit (.int (1)))) (.blt .len (.cons (.sub (.var 0) (.lit (.int (0)))) .nil)))) (.cons (.asg (.tup (.cons (.sub (.var 0) (.lit (.int (2)))) (.cons (.sub (.var 0) (.lit (.int (3)))) (.cons (.sub (.var 0) (.lit (.int (1)))) .nil)))) (.tup (.cons (.sub (.sub (.var 0) (.lit (.int (0)))) (.sub (.var 0) (.lit (.int (1))))) (.cons (.lit (.int (60))) (.cons (.op2 .Add (.sub (.var 0) (.lit (.int (1)))) (.lit (.int (1)))) .nil)))))
    .nil) .nil) [some (.ref n), some (.int many), x] h = .ok (.nx [some (.ref n), some (.int many), x]) (h.set n (.lst [.ref m, .int p', .int v', .int c', .int s, .int t])) := by
  by_cases hc : c = 0 ∧ p < xs.length
  · obtain ⟨rfl, hl⟩ := hc
    obtain ⟨i, rfl⟩ := Int.eq_ofNat_of_zero_le hp
    have hi : i < xs.length := by omega
    refine ⟨i + 1, xs[i], 60, by omega, ?_⟩
    have ga : L2.atI (xs.map D.int) (i : Int) = some (.int xs[i]) := L2.atI_nat (by rw [List.getElem?_map, List.getElem?_eq_getElem hi]; rfl)
    simp [evS, evB, evSs, evE, evEs, evG, evGs, var, subP_ref e, at6, ofO, cmpP, deq, truthy, blt, seqOf, em, hl, subP_ref em ga, prim2, Tgs.len, SZ, setP_ref e, setP_ref (hset e), ix6, List.set, List.set_set]
  · refine ⟨p, v, c, hp, ?_⟩
    have e0 : h.set n (.lst [.ref m, .int p, .int v, .int c, .int s, .int t]) = h := by
      obtain ⟨h1, h2⟩ := List.getElem?_eq_some_iff.mp e
      rw [← h2, List.set_getElem_self]
    rw [e0]
    by_cases h0 : c = 0
    · have hl : ¬ p < xs.length := fun z => hc ⟨h0, z⟩
      simp [evS, evB, evSs, evE, evEs, var, subP_ref e, at6, ofO, cmpP, deq, truthy, blt, seqOf, em, hl, h0]
    · simp [evS, evB, evSs, evE, evEs, var, subP_ref e, at6, ofO, cmpP, deq, truthy, blt, seqOf, em, h0]
theorem draw2 (e : h[n]? = some (.lst [.ref m, .int p, .int v, .int c, .int s, .int t])) (hc : 0 < c) (h1 : 0 < many) (h2 : many.natAbs < 2 ^ 8000) :
    ∃ v' c', evSs call (.cons (.ifs (.cmp .Gt (.sub (.var 0) (.lit (.int (3)))) (.lit (.int (0)))) (.cons (.asg (.name 2) (.op2 .Mod (.blt .int (.cons (.sub (.var 0) (.lit (.int (2)))) .nil)) (.var 1)))
    (.cons (.asg (.sub (.var 0) (.lit (.int (2)))) (.op2 .FloorDiv (.sub (.var 0) (.lit (.int (2)))) (.var 1)))
    (.cons (.asg (.sub (.var 0) (.lit (.int (3)))) (.ite (.cmp .Gt (.sub (.var 0) (.lit (.int (2)))) (.lit (.int (0)))) (.op2 .Sub (.sub (.var 0) (.lit (.int (3)))) (.lit (.int (1)))) (.lit (.int (0)))))
    (.cons (.ret (.var 2))
    .nil)))) .nil)
    (.cons (.asg (.sub (.var 0) (.lit (.int (5)))) (.op2 .Add (.sub (.var 0) (.lit (.int (5)))) (.lit (.int (1)))))
    (.cons (.asg (.sub (.var 0) (.lit (.int (4)))) (.op2 .Mod (.blt .int (.cons (.op2 .Add (.op2 .Add (.op2 .Mult (.sub (.var 0) (.lit (.int (4)))) (.lit (.int (48271)))) (.op2 .Mult (.op2 .Mult (.sub (.var 0) (.lit (.int (5)))) (.sub (.var 0) (.lit (.int (5))))) (.lit (.int (69621))))) (.lit (.int (11)))) .nil)) (.lit (.int (2147483647)))))
    (.cons (.ret (.op2 .Mod (.blt .int (.cons (.op2 .FloorDiv (.sub (.var 0) (.lit (.int (4)))) (.lit (.int (13)))) .nil)) (.var 1)))
    .nil)))) [some (.ref n), some (.int many), x] h = .ok (.rt (.int (v % many))) (h.set n (.lst [.ref m, .int p, .int v', .int c', .int s, .int t])) := by
  have hd := lt_dbig h2
  by_cases hv : 0 < v / many
  · refine ⟨v / many, c - 1, ?_⟩
    simp [evS, evB, evSs, evE, evEs, evG, evGs, var, subP_ref e, at6, ofO, cmpP, deq, truthy, blt, prim2, hc, h1, hd, setP_ref e, setP_ref (hset e), subP_ref (hset e), ix6, List.set, List.set_set, hv]
  · refine ⟨v / many, 0, ?_⟩
    simp [evS, evB, evSs, evE, evEs, evG, evGs, var, subP_ref e, at6, ofO, cmpP, deq, truthy, blt, prim2, hc, h1, hd, setP_ref e, setP_ref (hset e), subP_ref (hset e), ix6, List.set, List.set_set, hv]
theorem draw3 (e : h[n]? = some (.lst [.ref m, .int p, .int v, .int c, .int s, .int t])) (hc : ¬ 0 < c) (h1 : 0 < many) (h2 : many.natAbs < 2 ^ 8000) (s0 : 0 ≤ s) (s1 : s < 2147483648) (t0 : 0 ≤ t) (t1 : t < 1000000000) :
    ∃ s', 0 ≤ s' ∧ s' < 2147483648 ∧ evSs call (.cons (.ifs (.cmp .Gt (.sub (.var 0) (.lit (.int (3)))) (.lit (.int (0)))) (.cons (.asg (.name 2) (.op2 .Mod (.blt .int (.cons (.sub (.var 0) (.lit (.int (2)))) .nil)) (.var 1)))
    (.cons (.asg (.sub (.var 0) (.lit (.int (2)))) (.op2 .FloorDiv (.sub (.var 0) (.lit (.int (2)))) (.var 1)))
    (.cons (.asg (.sub (.var 0) (.lit (.int (3)))) (.ite (.cmp .Gt (.sub (.var 0) (.lit (.int (2)))) (.lit (.int (0)))) (.op2 .Sub (.sub (.var 0) (.lit (.int (3)))) (.lit (.int (1)))) (.lit (.int (0)))))
    (.cons (.ret (.var 2))
    .nil)))) .nil)
    (.cons (.asg (.sub (.var 0) (.lit (.int (5)))) (.op2 .Add (.sub (.var 0) (.lit (.int (5)))) (.lit (.int (1)))))
    (.cons (.asg (.sub (.var 0) (.lit (.int (4)))) (.op2 .Mod (.blt .int (.cons (.op2 .Add (.op2 .Add (.op2 .Mult (.sub (.var 0) (.lit (.int (4)))) (.lit (.int (48271)))) (.op2 .Mult (.op2 .Mult (.sub (.var 0) (.lit (.int (5)))) (.sub (.var 0) (.lit (.int (5))))) (.lit (.int (69621))))) (.lit (.int (11)))) .nil)) (.lit (.int (2147483647)))))
    (.cons (.ret (.op2 .Mod (.blt .int (.cons (.op2 .FloorDiv (.sub (.var 0) (.lit (.int (4)))) (.lit (.int (13)))) .nil)) (.var 1)))
    .nil)))) [some (.ref n), some (.int many), x] h = .ok (.rt (.int (s' / 13 % many))) (h.set n (.lst [.ref m, .int p, .int v, .int c, .int s', .int (t + 1)])) := by
  have hd := lt_dbig h2
  have b1 : s.natAbs < BIG := lt_big (lt_pw (a := 2147483648) (by omega) (by decide))
  have b2 : (t + 1).natAbs < BIG := lt_big (lt_pw (a := 1000000001) (by omega) (by decide))
  have b3 : ((t + 1) * (t + 1)).natAbs < BIG := by
    rw [Int.natAbs_mul]
    refine Nat.lt_of_le_of_lt (Nat.mul_le_mul (show (t + 1).natAbs ≤ 1000000001 by omega) (show (t + 1).natAbs ≤ 1000000001 by omega)) (Nat.lt_of_lt_of_le (show 1000000001 * 1000000001 < 2 ^ 400 by decide) (Nat.pow_le_pow_right (by decide) (by decide)))
  have b4 : (48271 : Nat) < BIG := Nat.lt_of_lt_of_le (show 48271 < 2 ^ 400 by decide) (Nat.pow_le_pow_right (by decide) (by decide))
  have b5 : (69621 : Nat) < BIG := Nat.lt_of_lt_of_le (show 69621 < 2 ^ 400 by decide) (Nat.pow_le_pow_right (by decide) (by decide))
  have b6 : (2147483647 : Nat) < DBIG := Nat.lt_of_lt_of_le (show 2147483647 < 2 ^ 400 by decide) (Nat.pow_le_pow_right (by decide) (by decide))
  have b7 : (13 : Nat) < DBIG := Nat.lt_of_lt_of_le (show 13 < 2 ^ 400 by decide) (Nat.pow_le_pow_right (by decide) (by decide))
  refine ⟨(s * 48271 + (t + 1) * (t + 1) * 69621 + 11) % 2147483647, Int.emod_nonneg _ (by decide), Int.lt_trans (Int.emod_lt_of_pos _ (by decide)) (by decide), ?_⟩
  simp [evS, evB, evSs, evE, evEs, evG, evGs, var, subP_ref e, at6, ofO, cmpP, deq, truthy, blt, prim2, hc, h1, hd, setP_ref e, setP_ref (hset e), subP_ref (hset e), ix6, List.set, List.set_set, b1, b2, b3, b4, b5, b6, b7]
end
/-- f_draw(state, many) -/
theorem draw_ok {P : List Fn} {k j n m B : Nat} {h : AH} {many : Int} (hP : P[j]? = some ⟨2, 3, drawB⟩) (st : StOk h n m B) (hB : B < 1000000000) (h1 : 0 < many) (h2 : many.natAbs < 2 ^ 8000) :
    ∃ r h', evC P (k + 1) j [.ref n, .int many] h = .ok (.int r) h' ∧ 0 ≤ r ∧ r < many ∧ StOk h' n m (B + 1) ∧ h'.length = h.length ∧ ∀ q, q ≠ n → h'[q]? = h[q]? := by
  obtain ⟨xs, p, v, c, s, t, e, em, nm, hp, s0, s1, t0, t1⟩ := st
  obtain ⟨p', v', c', hp', q1⟩ := draw1 (call := evC P k) (many := many) (x := none) e em nm hp
  have e' := hset (c' := .lst [.ref m, .int p', .int v', .int c', .int s, .int t]) e
  have em' : (h.set n (.lst [.ref m, .int p', .int v', .int c', .int s, .int t]))[m]? = some (.lst (xs.map .int)) := by rw [hset_ne nm]; exact em
  have fr : ∀ (c1 c2 : Cell) (q : Nat), q ≠ n → ((h.set n c1).set n c2)[q]? = h[q]? := fun c1 c2 q hq => by rw [hset_ne (Ne.symm hq), hset_ne (Ne.symm hq)]
  rw [evC_at hP rfl]
  show ∃ r h', ((evSs (evC P k) drawB [some (.ref n), some (.int many), none] h).bind (fin h) = _) ∧ _
  unfold drawB
  rw [ss_nx q1]
  by_cases hc : 0 < c'
  · obtain ⟨v2, c2, q2⟩ := draw2 (call := evC P k) (many := many) (x := none) e' hc h1 h2
    refine ⟨v' % many, (h.set n (.lst [.ref m, .int p', .int v', .int c', .int s, .int t])).set n (.lst [.ref m, .int p', .int v2, .int c2, .int s, .int t]), ?_, Int.emod_nonneg _ (by omega), Int.emod_lt_of_pos _ h1, ⟨xs, p', v2, c2, s, t, hset e', by rw [hset_ne nm]; exact em', nm, hp', s0, s1, t0, by omega⟩, by simp, fun q hq => fr _ _ q hq⟩
    rw [q2, R.bind_ok]
    exact sweep_len (by simp)
  · obtain ⟨s', z0, z1, q2⟩ := draw3 (call := evC P k) (many := many) (x := none) e' hc h1 h2 s0 s1 t0 (by omega)
    refine ⟨s' / 13 % many, (h.set n (.lst [.ref m, .int p', .int v', .int c', .int s, .int t])).set n (.lst [.ref m, .int p', .int v', .int c', .int s', .int (t + 1)]), ?_, Int.emod_nonneg _ (by omega), Int.emod_lt_of_pos _ h1, ⟨xs, p', v', c', s', t + 1, hset e', by rw [hset_ne nm]; exact em', nm, hp', z0, z1, by omega, by omega⟩, by simp, fun q hq => fr _ _ q hq⟩
    rw [q2, R.bind_ok]
    exact sweep_len (by simp)

/-! from Law2 -/
/-! ### quotients -/
def gBody : CSs := (.cons (.asg (.tup (.cons (.name 2) (.cons (.name 3) .nil))) (.tup (.cons (.var 3) (.cons (.op2 .Sub (.var 2) (.op2 .Mult (.op2 .FloorDiv (.var 2) (.var 3)) (.var 3))) .nil))))
    .nil)
theorem gcd_loop {call : Call} {h : AH} {u d : Option D} : ∀ (n a b : Nat), b < n → a < 2 ^ 8000 → b < 2 ^ 8000 →
    evWhile (evB call (.var 3)) (evSs call gBody) n [u, d, some (.int a), some (.int b)] h = .ok (.nx [u, d, some (.int (Nat.gcd a b : Nat)), some (.int 0)]) h
  | 0, a, b, hb, _, _ => by omega
  | n + 1, a, b, hb, ha, hb2 => by
    rw [evWhile]
    by_cases h0 : b = 0
    · subst h0
      simp [evB, evE, var, truthy, ofO]
    · have hb1 : (0 : Int) < (b : Int) := by omega
      have hd : ((b : Int)).natAbs < DBIG := lt_dbig (by simpa using hb2)
      have hB : ((b : Int)).natAbs < BIG := lt_big (by simpa using hb2)
      have hA : ((a : Int) / (b : Int)).natAbs < BIG := lt_big (by
        have : ((a : Int) / (b : Int)).natAbs = a / b := by
          rw [show (a : Int) / (b : Int) = ((a / b : Nat) : Int) by simp]
          rfl
        rw [this]
        exact Nat.lt_of_le_of_lt (Nat.div_le_self _ _) ha)
      have hm : (a : Int) - (a : Int) / (b : Int) * (b : Int) = ((a % b : Nat) : Int) := by
        rw [Int.natCast_emod, Int.emod_def, Int.mul_comm]
      have hlt := Nat.mod_lt a (Nat.pos_of_ne_zero h0)
      have ih := gcd_loop (call := call) (h := h) (u := u) (d := d) n b (a % b) (by omega) hb2 (Nat.lt_trans hlt hb2)
      have hg : Nat.gcd b (a % b) = Nat.gcd a b := by rw [Nat.gcd_comm, ← Nat.gcd_rec, Nat.gcd_comm]
      rw [hg] at ih
      have hB' : b < BIG := by simpa using hB
      have hd' : b < DBIG := by simpa using hd
      have hA' := hA
      have hm' := hm
      simp only [Int.natCast_emod] at hm' ih
      have ht : evB call (.var 3) [u, d, some (.int a), some (.int b)] h = .ok true h := by
        simp [evB, evE, var, truthy, ofO]
        omega
      have hbd : evSs call gBody [u, d, some (.int a), some (.int b)] h = .ok (.nx [u, d, some (.int b), some (.int ((a : Int) % (b : Int)))]) h := by
        unfold gBody
        simp only [evSs, evS, evE, evEs, evG, evGs, var, R.bind_ok, List.getElem?_cons_succ, List.getElem?_cons_zero, prim2, Tgs.len, List.length_cons, List.length_nil, List.set_cons_succ, List.set_cons_zero]
        rw [if_pos ⟨hb1, hd⟩]
        simp only [R.bind_ok]
        rw [if_pos ⟨hA, hB⟩]
        simp [SZ, hm']
      rw [ht, R.bind_ok, if_pos rfl, hbd, R.bind_ok]
      exact ih
/-- a quotient in its lowest terms -/
def red (u d : Int) : Int × Int := if 0 < d then (u / (Int.gcd u d : Nat), d / (Int.gcd u d : Nat)) else (-(u / (Int.gcd u d : Nat)), -(d / (Int.gcd u d : Nat)))
def qd (x : Int × Int) : D := .tup [.int x.1, .int x.2]
def quotB : CSs :=
    (.cons (.asg (.tup (.cons (.name 2) (.cons (.name 3) .nil))) (.tup (.cons (.blt .abs (.cons (.var 0) .nil)) (.cons (.blt .abs (.cons (.var 1) .nil)) .nil))))
    (.cons (.whil (.var 3) (.cons (.asg (.tup (.cons (.name 2) (.cons (.name 3) .nil))) (.tup (.cons (.var 3) (.cons (.op2 .Sub (.var 2) (.op2 .Mult (.op2 .FloorDiv (.var 2) (.var 3)) (.var 3))) .nil))))
    .nil))
    (.cons (.asg (.name 2) (.bltT .max (.lst (.cons (.var 2) (.cons (.lit (.int (1))) .nil)))))
    (.cons (.ret (.ite (.cmp .Gt (.var 1) (.lit (.int (0)))) (.tup (.cons (.op2 .FloorDiv (.var 0) (.var 2)) (.cons (.op2 .FloorDiv (.var 1) (.var 2)) .nil))) (.tup (.cons (.op2 .Sub (.lit (.int (0))) (.op2 .FloorDiv (.var 0) (.var 2))) (.cons (.op2 .Sub (.lit (.int (0))) (.op2 .FloorDiv (.var 1) (.var 2))) .nil)))))
    .nil))))
theorem abs_nat (u : Int) : (if u < 0 then -u else u) = ((u.natAbs : Nat) : Int) := by split <;> omega
theorem quot_ok {P : List Fn} {k j : Nat} {h : AH} {u d : Int} (hP : P[j]? = some ⟨2, 4, quotB⟩) (h0 : d ≠ 0) (hu : u.natAbs < 2 ^ 3000) (hd : d.natAbs < 2 ^ 3000) : evC P (k + 1) j [.int u, .int d] h = .ok (qd (red u d)) h := by
  rw [evC_at hP rfl]
  show (evSs (evC P k) quotB [some (.int u), some (.int d), none, none] h).bind (fin h) = _
  have up : ∀ {a : Nat}, a < 2 ^ 3000 → a < 2 ^ 8000 := fun h => Nat.lt_trans h (Nat.pow_lt_pow_right (by decide) (by decide))
  have g0 : 0 < Nat.gcd u.natAbs d.natAbs := Nat.gcd_pos_of_pos_right _ (by omega)
  have gl : Nat.gcd u.natAbs d.natAbs < 2 ^ 8000 := Nat.lt_of_le_of_lt (Nat.gcd_le_right _ (by omega)) (up hd)
  have lp := gcd_loop (call := evC P k) (h := h) (u := some (.int u)) (d := some (.int d)) FUEL u.natAbs d.natAbs (Nat.lt_trans hd (Nat.pow_lt_pow_right (by decide) (by decide))) (up hu) (up hd)
  generalize hg : Nat.gcd u.natAbs d.natAbs = g at *
  have hgd : ((g : Nat) : Int).natAbs < DBIG := lt_dbig (by simpa using gl)
  have hgd' : g < DBIG := by simpa using hgd
  unfold quotB
  rw [ss_nx (env1 := [some (.int u), some (.int d), some (.int u.natAbs), some (.int d.natAbs)]) (h1 := h) (by simp [evS, evE, evEs, evG, evGs, var, blt, Tgs.len, SZ, abs_nat])]
  rw [ss_nx (env1 := [some (.int u), some (.int d), some (.int g), some (.int 0)]) (h1 := h) (by
    rw [evS]
    exact lp)]
  rw [ss_nx (env1 := [some (.int u), some (.int d), some (.int g), some (.int 0)]) (h1 := h) (by
    have : ¬ (g : Int) < 1 := by omega
    simp [evS, evE, evEs, evT, evG, evGs, var, bltT, mapO, asInt, maxI, SZ, this])]
  have e1 : (Int.gcd u d : Nat) = g := hg
  by_cases hp : 0 < d
  · rw [ss_rt (d := qd (red u d)) (h1 := h) (by simp [evS, evB, evE, evEs, var, ofO, cmpP, truthy, prim2, hp, g0, hgd', SZ, red, qd, e1])]
    exact sweep_self
  · rw [ss_rt (d := qd (red u d)) (h1 := h) (by simp [evS, evB, evE, evEs, var, ofO, cmpP, truthy, prim2, hp, g0, hgd', SZ, red, qd, e1])]
    exact sweep_self

/-! from Law3 -/
theorem gcd_ne {u d : Int} (h : d ≠ 0) : ((Int.gcd u d : Nat) : Int) ≠ 0 := by
  have : 0 < Int.gcd u d := Int.gcd_pos_of_ne_zero_right _ h
  omega
theorem red_cases (u d : Int) (h : d ≠ 0) : ∃ a b : Int, u = a * (Int.gcd u d : Nat) ∧ d = b * (Int.gcd u d : Nat) ∧ Int.gcd a b = 1 ∧ b ≠ 0 ∧ red u d = (if 0 < d then (a, b) else (-a, -b)) ∧ (0 < d ↔ 0 < b) := by
  have g0 := gcd_ne (u := u) h
  obtain ⟨a, ha⟩ := Int.gcd_dvd_left (a := u) (b := d)
  obtain ⟨b, hb⟩ := Int.gcd_dvd_right (a := u) (b := d)
  have gp : 0 < Int.gcd u d := by omega
  have e1 : u / (Int.gcd u d : Nat) = a := by
    conv => lhs; lhs; rw [ha]
    exact Int.mul_ediv_cancel_left _ g0
  have e2 : d / (Int.gcd u d : Nat) = b := by
    conv => lhs; lhs; rw [hb]
    exact Int.mul_ediv_cancel_left _ g0
  refine ⟨a, b, by rw [Int.mul_comm]; exact ha, by rw [Int.mul_comm]; exact hb, ?_, ?_, ?_, ?_⟩
  · rw [← e1, ← e2]
    exact Int.gcd_ediv_gcd_ediv_gcd gp
  · rintro rfl
    rw [Int.mul_zero] at hb
    exact h hb
  · unfold red
    rw [e1, e2]
  · generalize Int.gcd u d = g at *
    constructor
    · intro hd
      rw [hb] at hd
      by_cases hb0 : 0 < b
      · exact hb0
      · have := Int.mul_nonneg (show (0 : Int) ≤ (g : Int) by omega) (show 0 ≤ -b by omega)
        rw [Int.mul_neg] at this
        omega
    · intro hd
      rw [hb]
      exact Int.mul_pos (by omega) hd
theorem cop_neg {a b : Int} (h : Int.gcd a b = 1) : Int.gcd (-a) (-b) = 1 := by simpa using h
theorem red_pos {u d : Int} (h : d ≠ 0) : 0 < (red u d).2 := by
  obtain ⟨a, b, _, _, _, h3, h4, h5⟩ := red_cases u d h
  rw [h4]
  split <;> simp <;> omega
theorem red_cop {u d : Int} (h : d ≠ 0) : Int.gcd (red u d).1 (red u d).2 = 1 := by
  obtain ⟨a, b, _, _, h2, h3, h4, h5⟩ := red_cases u d h
  rw [h4]
  split
  · exact h2
  · exact cop_neg h2
theorem red_cross {u d : Int} (h : d ≠ 0) : (red u d).1 * d = u * (red u d).2 := by
  obtain ⟨a, b, h0, h1, h2, h3, h4, h5⟩ := red_cases u d h
  rw [h4]
  generalize Int.gcd u d = g at *
  split
  · show a * d = u * b
    rw [h0, h1, Int.mul_comm b, ← Int.mul_assoc]
  · show -a * d = u * -b
    rw [h0, h1, Int.neg_mul, Int.mul_neg, Int.mul_comm b, ← Int.mul_assoc]
theorem abs_le_mul {a : Int} {g : Nat} (hg : 0 < g) : a.natAbs ≤ (a * g).natAbs := by
  rw [Int.natAbs_mul]
  exact Nat.le_mul_of_pos_right _ (by simpa using hg)
theorem red_le {u d : Int} (h : d ≠ 0) : (red u d).1.natAbs ≤ u.natAbs ∧ (red u d).2.natAbs ≤ d.natAbs := by
  obtain ⟨a, b, h0, h1, h2, h3, h4, h5⟩ := red_cases u d h
  have gp : 0 < Int.gcd u d := by have := gcd_ne (u := u) h; omega
  rw [h4]
  have ea := abs_le_mul (a := a) gp
  have eb := abs_le_mul (a := b) gp
  rw [← h0] at ea
  rw [← h1] at eb
  split
  · exact ⟨ea, eb⟩
  · simpa using ⟨ea, eb⟩
/-- the lowest terms are one's own -/
theorem cop_dvd {a b c : Int} (h : Int.gcd a b = 1) (e : b ∣ a * c) : b ∣ c := by
  have h' : Nat.Coprime b.natAbs a.natAbs := by
    have : Nat.gcd a.natAbs b.natAbs = 1 := h
    rw [Nat.gcd_comm] at this
    exact this
  refine Int.natAbs_dvd_natAbs.mp (h'.dvd_of_dvd_mul_left ?_)
  rw [← Int.natAbs_mul]
  exact Int.natAbs_dvd_natAbs.mpr e
theorem low_uniq {a b c d : Int} (hb : 0 < b) (hd : 0 < d) (h1 : Int.gcd a b = 1) (h2 : Int.gcd c d = 1) (e : a * d = c * b) : a = c ∧ b = d := by
  have d1 : b ∣ d := cop_dvd h1 ⟨c, by rw [e, Int.mul_comm]⟩
  have d2 : d ∣ b := cop_dvd h2 ⟨a, by rw [← e, Int.mul_comm]⟩
  have hbd : b = d := Int.le_antisymm (Int.le_of_dvd hd d1) (Int.le_of_dvd hb d2)
  subst hbd
  exact ⟨Int.eq_of_mul_eq_mul_right (by omega) e, rfl⟩
theorem red_uniq {u d a b : Int} (h : d ≠ 0) (hb : 0 < b) (h1 : Int.gcd a b = 1) (e : a * d = u * b) : red u d = (a, b) := by
  have p := red_pos (u := u) h
  have c := red_cop (u := u) h
  have x := red_cross (u := u) h
  have : (red u d).1 * b = a * (red u d).2 := by
    refine Int.eq_of_mul_eq_mul_right h ?_
    rw [Int.mul_right_comm, x, Int.mul_right_comm, Int.mul_right_comm a, e]
  obtain ⟨q1, q2⟩ := low_uniq p hb c h1 this
  exact Prod.ext q1 q2

/-! from Law4 -/
def sameB : CSs :=
    (.cons (.ret (.and (.cmp .Eq (.var 0) (.var 1)) (.cmp .Eq (.blt .repr (.cons (.var 0) .nil)) (.blt .repr (.cons (.var 1) .nil)))))
    .nil)
/-- d may be looked at by == and by repr -/
def Sm (h : AH) (d : D) : Prop := deq d d h = some true ∧ ∃ s, repO d h = some s
theorem same_ok {P : List Fn} {k j : Nat} {h : AH} {d : D} (hP : P[j]? = some ⟨2, 2, sameB⟩) (s : Sm h d) : evC P (k + 1) j [d, d] h = .ok (.bl true) h := by
  obtain ⟨s1, z, s2⟩ := s
  rw [evC_at hP rfl]
  show (evSs (evC P k) sameB [some d, some d] h).bind (fin h) = _
  unfold sameB
  rw [ss_rt (d := .bl true) (h1 := h) (by
    have e : blt .repr [d] h = .ok (.str z) h := by
      have : blt .repr [d] h = (match repO d h with
        | some s => .ok (.str s) h
        | none => .bad) := by cases d <;> rfl
      rw [this, s2]
    have e2 : deq (.str z) (.str z) h = some true := by simp [deq]
    simp [evS, evE, evEs, var, cmpP, s1, ofO, truthy, e, e2])]
  exact sweep_self
theorem int_len {i : Int} {k : Nat} (hk : 0 < k) (h : i.natAbs < 10 ^ k) : (Str.ofString (toString i)).length ≤ k + 1 := by
  cases i with
  | ofNat n =>
    have hn : n < 10 ^ k := by simpa using h
    have := toString_length_le (v := (n : Int)) (by omega) hk (by exact_mod_cast hn)
    exact Nat.le_succ_of_le this
  | negSucc n =>
    have hn : n + 1 < 10 ^ k := by simpa using h
    have := toString_length_le (v := ((n + 1 : Nat) : Int)) (by omega) hk (by exact_mod_cast hn)
    rw [ofString_len] at this ⊢
    have e : toString (Int.negSucc n) = "-" ++ toString ((n + 1 : Nat) : Int) := rfl
    rw [e, String.length_append]
    have : "-".length = 1 := rfl
    omega
theorem str_len2 (a b : Str) : (a ++ b).length = a.length + b.length := by
  show (a.cps ++ b.cps).size = a.cps.size + b.cps.size
  exact Array.size_append
theorem sm_qd {h : AH} {x : Int × Int} {k : Nat} (hk : 0 < k) (hk2 : k ≤ 500) (h1 : x.1.natAbs < 10 ^ k) (h2 : x.2.natAbs < 10 ^ k) : Sm h (qd x) := by
  have e : toP DEEP h (qd x) = some (.tuple [.int x.1, .int x.2]) := by simp [toP, DEEP, qd, mapO]
  have hb : ∀ i : Int, i.natAbs < 10 ^ k → i.natAbs.log2 < 1920 := fun i hi => by
    refine str_ok (Nat.lt_of_lt_of_le hi (Nat.le_trans (Nat.pow_le_pow_right (by decide) hk2) ?_))
    show 10 ^ 500 ≤ 2 ^ 1900
    decide +kernel
  refine ⟨?_, PyData.shown (.tuple [.int x.1, .int x.2]), ?_⟩
  · show (match toP DEEP h (qd x), toP DEEP h (qd x) with
      | some p, some q => some (PyData.eqv p q)
      | _, _ => none) = some true
    rw [e]
    simp [PyData.eqv, PyData.eqvAll]
  · unfold repO
    rw [e]
    have l1 := int_len hk h1
    have l2 := int_len hk h2
    have sh : PyData.showable (.tuple [.int x.1, .int x.2]) = true := by
      simp only [PyData.showable, PyData.showableAll, hb _ h1, hb _ h2, decide_true, Bool.and_self, Bool.and_true]
    have ln : (PyData.shown (.tuple [.int x.1, .int x.2])).length + 64 ≤ SZ := by
      have : PyData.shown (.tuple [.int x.1, .int x.2]) = (Str.ofString "(" ++ (Str.ofString (toString x.1) ++ Str.ofString ", " ++ Str.ofString (toString x.2))) ++ Str.ofString ")" := by
        simp [PyData.shown, PyData.shownAll, tupleText, Str.join]
      rw [this, str_len2, str_len2, str_len2, str_len2]
      have a1 : (Str.ofString "(").length = 1 := by decide +kernel
      have a2 : (Str.ofString ", ").length = 2 := by decide +kernel
      have a3 : (Str.ofString ")").length = 1 := by decide +kernel
      have : SZ = 16777216 := rfl
      omega
    show (if (PyData.showable _ && decide ((PyData.shown _).length + 64 ≤ SZ)) = true then _ else none) = _
    rw [sh, decide_eq_true ln]
    rfl

/-! from K00b -/
theorem at2 {a0 a1 : D} : L2.atI [a0, a1] 0 = some a0 ∧ L2.atI [a0, a1] 1 = some a1 := ⟨rfl, rfl⟩
theorem deq_qd {h : AH} {x y : Int × Int} : deq (qd x) (qd y) h = some (decide (x = y)) := by
  have e : ∀ x : Int × Int, toP DEEP h (qd x) = some (.tuple [.int x.1, .int x.2]) := fun x => by simp [toP, DEEP, qd, mapO]
  show (match toP DEEP h (qd x), toP DEEP h (qd y) with
    | some p, some q => some (PyData.eqv p q)
    | _, _ => none) = _
  rw [e, e]
  obtain ⟨a, b⟩ := x
  obtain ⟨c, d⟩ := y
  simp [PyData.eqv, PyData.eqvAll, Prod.ext_iff]
  rw [Bool.eq_iff_iff]
  simp
theorem sub0 {h : AH} {x : Int × Int} : subP (qd x) (.int 0) h = .ok (.int x.1) h := by simp [subP, seqOf, qd, at2]
theorem sub1 {h : AH} {x : Int × Int} : subP (qd x) (.int 1) h = .ok (.int x.2) h := by simp [subP, seqOf, qd, at2]
/-- below 2 ^ n -/
def Lt2 (n : Nat) (i : Int) : Prop := i.natAbs < 2 ^ n
theorem Lt2.le {n m : Nat} {i : Int} (h : Lt2 n i) (e : n ≤ m) : Lt2 m i := Nat.lt_of_lt_of_le h (Nat.pow_le_pow_right (by decide) e)
theorem Lt2.mul {n m : Nat} {i j : Int} (h : Lt2 n i) (h' : Lt2 m j) : Lt2 (n + m) (i * j) := by
  unfold Lt2 at *
  rw [Int.natAbs_mul, Nat.pow_add]
  exact Nat.mul_lt_mul'' h h'
theorem Lt2.add {n : Nat} {i j : Int} (h : Lt2 n i) (h' : Lt2 n j) : Lt2 (n + 1) (i + j) := by
  unfold Lt2 at *
  rw [Nat.pow_succ]
  omega
theorem Lt2.neg {n : Nat} {i : Int} (h : Lt2 n i) : Lt2 n (-i) := by
  unfold Lt2 at *
  omega
theorem Lt2.big {n : Nat} {i : Int} (h : Lt2 n i) (e : n ≤ 8000) : i.natAbs < BIG := lt_big (h.le e)
theorem Lt2.dbig {n : Nat} {i : Int} (h : Lt2 n i) (e : n ≤ 8000) : i.natAbs < DBIG := lt_dbig (h.le e)
/-- in lowest terms, each part below 2 ^ n -/
structure Qt (n : Nat) (x : Int × Int) : Prop where
  pos : 0 < x.2
  cop : Int.gcd x.1 x.2 = 1
  l1 : Lt2 n x.1
  l2 : Lt2 n x.2
theorem Qt.le {n m : Nat} {x : Int × Int} (h : Qt n x) (e : n ≤ m) : Qt m x := ⟨h.pos, h.cop, h.l1.le e, h.l2.le e⟩
theorem Qt.ne {n : Nat} {x : Int × Int} (h : Qt n x) : x.2 ≠ 0 := by have := h.pos; omega
theorem qt_red {n : Nat} {u d : Int} (h : d ≠ 0) (h1 : Lt2 n u) (h2 : Lt2 n d) : Qt n (red u d) := ⟨red_pos h, red_cop h, Nat.lt_of_le_of_lt (red_le h).1 h1, Nat.lt_of_le_of_lt (red_le h).2 h2⟩
theorem Qt.sm {n : Nat} {x : Int × Int} {h : AH} (q : Qt n x) (e : n ≤ 1600) : Sm h (qd x) := by
  have : (2 : Nat) ^ n ≤ 10 ^ 500 := Nat.le_trans (Nat.pow_le_pow_right (by decide) e) (by decide +kernel)
  exact sm_qd (k := 500) (by decide) (by decide) (Nat.lt_of_lt_of_le q.l1 this) (Nat.lt_of_lt_of_le q.l2 this)
theorem qd_eta (a b : Int) : (.tup [.int a, .int b] : D) = qd (a, b) := rfl
/-- a def that leaves the heap alone -/
theorem ent {P : List Fn} {k j np nn : Nat} {body : CSs} {ds : List D} {h : AH} {d : D} (env : En) (hP : P[j]? = some ⟨np, nn, body⟩) (hl : ds.length = np) (he : ds.map some ++ List.replicate (nn - np) none = env) (q : evSs (evC P k) body env h = .ok (.rt d) h) : evC P (k + 1) j ds h = .ok d h := by
  rw [evC_at hP hl]
  show (evSs (evC P k) body (ds.map some ++ List.replicate (nn - np) none) h).bind (fin h) = _
  rw [he, q]
  exact sweep_self
theorem entN {P : List Fn} {k j np nn : Nat} {body : CSs} {ds : List D} {h : AH} {env' : En} (env : En) (hP : P[j]? = some ⟨np, nn, body⟩) (hl : ds.length = np) (he : ds.map some ++ List.replicate (nn - np) none = env) (q : evSs (evC P k) body env h = .ok (.nx env') h) : evC P (k + 1) j ds h = .ok .non h := by
  rw [evC_at hP hl]
  show (evSs (evC P k) body (ds.map some ++ List.replicate (nn - np) none) h).bind (fin h) = _
  rw [he, q]
  exact sweep_self
theorem entH {P : List Fn} {k j np nn : Nat} {body : CSs} {ds : List D} {h h' : AH} {d : D} (env : En) (hP : P[j]? = some ⟨np, nn, body⟩) (hl : ds.length = np) (he : ds.map some ++ List.replicate (nn - np) none = env) (q : evSs (evC P k) body env h = .ok (.rt d) h') (e : h'.length = h.length) : evC P (k + 1) j ds h = .ok d h' := by
  rw [evC_at hP hl]
  show (evSs (evC P k) body (ds.map some ++ List.replicate (nn - np) none) h).bind (fin h) = _
  rw [he, q]
  exact sweep_len e
theorem tru_bl {b : Bool} {h : AH} : truthy (.bl b) h = some b := rfl
theorem isTy_qd {x : Int × Int} {h : AH} : isTy (qd x) .tup h = some true := rfl
theorem len_qd {x : Int × Int} {h : AH} : blt .len [qd x] h = .ok (.int 2) h := by simp [blt, qd, seqOf]
theorem deq_i {i j : Int} {h : AH} : deq (.int i) (.int j) h = some (decide (i = j)) := rfl
theorem blt_gcd {i j : Int} {h : AH} : blt .gcd [.int i, .int j] h = .ok (.int ((Nat.gcd i.natAbs j.natAbs : Nat) : Int)) h := rfl
theorem blt_abs {i : Int} {h : AH} : blt .abs [.int i] h = .ok (.int (if i < 0 then -i else i)) h := rfl
theorem blt_int {i : Int} {h : AH} : blt .int [.int i] h = .ok (.int i) h := rfl
theorem sz0 : (0 ≤ SZ) = True := eq_true (by decide)
theorem sz1 : (0 + 1 ≤ SZ) = True := eq_true (by decide)
theorem sz2 : (0 + 1 + 1 ≤ SZ) = True := eq_true (by decide)
theorem sz3 : (0 + 1 + 1 + 1 ≤ SZ) = True := eq_true (by decide)

/-! from K00c -/
theorem one_gcd (a : Int) : Int.gcd a 1 = 1 := by simp [Int.gcd]
theorem red_one {a : Int} : red a 1 = (a, 1) := red_uniq (by decide) (by decide) (one_gcd a) rfl
theorem lt2_1 {n : Nat} (hn : 0 < n) : Lt2 n 1 := by
  have : 2 ^ 1 ≤ 2 ^ n := Nat.pow_le_pow_right (by decide) hn
  unfold Lt2
  simp at *
  omega
theorem big2 {n m : Nat} {i j : Int} (h1 : Lt2 n i) (h2 : Lt2 m j) (e1 : n ≤ 8000) (e2 : m ≤ 8000) : i.natAbs < BIG ∧ j.natAbs < BIG := ⟨h1.big e1, h2.big e2⟩
/-- the sum, the product as a quotient -/
def sumQ (x y : Int × Int) : Int × Int := red (x.1 * y.2 + y.1 * x.2) (x.2 * y.2)
def mulQ (x y : Int × Int) : Int × Int := red (x.1 * y.1) (x.2 * y.2)
def ovQ (x y : Int × Int) : Int × Int := red (x.1 * y.2) (x.2 * y.1)
def negQ (x : Int × Int) : Int × Int := (-x.1, x.2)
section
variable {n m : Nat} {x y : Int × Int} (q : Qt n x) (r : Qt m y)
include q r
theorem den_ne : x.2 * y.2 ≠ 0 := Int.mul_ne_zero q.ne r.ne
theorem sum_l1 {p : Nat} (h1 : n + m + 1 ≤ p) : Lt2 p (x.1 * y.2 + y.1 * x.2) := ((q.l1.mul r.l2).add (by have := r.l1.mul q.l2; rw [Nat.add_comm] at this; exact this)).le h1
theorem sum_l2 {p : Nat} (h1 : n + m + 1 ≤ p) : Lt2 p (x.2 * y.2) := (q.l2.mul r.l2).le (by omega)
theorem qt_sum : Qt (n + m + 1) (sumQ x y) := qt_red (den_ne q r) (sum_l1 q r (Nat.le_refl _)) (sum_l2 q r (Nat.le_refl _))
theorem qt_mul : Qt (n + m) (mulQ x y) := qt_red (den_ne q r) (q.l1.mul r.l1) (q.l2.mul r.l2)
theorem ov_ne (h : y.1 ≠ 0) : x.2 * y.1 ≠ 0 := Int.mul_ne_zero q.ne h
theorem qt_ov (h : y.1 ≠ 0) : Qt (n + m) (ovQ x y) := qt_red (ov_ne q r h) (q.l1.mul r.l2) (q.l2.mul r.l1)
end
theorem qt_neg {n : Nat} {x : Int × Int} (q : Qt n x) : Qt n (negQ x) := ⟨q.pos, by
  have := q.cop
  simpa [negQ] using this, q.l1.neg, q.l2⟩
theorem cop0 {n : Nat} {x : Int × Int} (q : Qt n x) (h : x.1 = 0) : x = (0, 1) := by
  have c := q.cop
  have p := q.pos
  rw [h] at c
  have : x.2.natAbs = 1 := by simpa [Int.gcd] using c
  exact Prod.ext h (by show x.2 = 1; omega)
theorem num_ne {n : Nat} {x : Int × Int} (q : Qt n x) (h : x ≠ (0, 1)) : x.1 ≠ 0 := fun z => h (cop0 q z)
theorem mulP {i j : Int} {h : AH} (c : i.natAbs < BIG ∧ j.natAbs < BIG) : prim2 .Mult (.int i) (.int j) h = .ok (.int (i * j)) h := by
  simp only [prim2, if_pos c]
theorem addP {i j : Int} {h : AH} : prim2 .Add (.int i) (.int j) h = .ok (.int (i + j)) h := rfl
theorem subP' {i j : Int} {h : AH} : prim2 .Sub (.int i) (.int j) h = .ok (.int (i - j)) h := rfl

/-! from Law5 -/
theorem loop_ok {tg : D → En → AH → R En} {body : En → AH → R Fl} {deps : List (Nat × Cell)} (I : List D → En → AH → Prop) (hd : ∀ r env h, I r env h → depsOk deps h = true)
    (step : ∀ x r env h, I (x :: r) env h → ∃ env1 h1 env2 h2, tg x env h = .ok env1 h1 ∧ body env1 h1 = .ok (.nx env2) h2 ∧ I r env2 h2) : ∀ xs env h, I xs env h → ∃ env' h', evLoop tg body deps xs env h = .ok (.nx env') h' ∧ I [] env' h'
  | [], env, h, i => ⟨env, h, by rw [evLoop, hd _ _ _ i]; rfl, i⟩
  | x :: r, env, h, i => by
    obtain ⟨env1, h1, env2, h2, e1, e2, i2⟩ := step x r env h i
    obtain ⟨env', h', e3, i3⟩ := loop_ok I hd step r env2 h2 i2
    refine ⟨env', h', ?_, i3⟩
    rw [evLoop, hd _ _ _ i, if_pos rfl, e1, R.bind_ok, e2, R.bind_ok]
    exact e3
theorem for_nx {call : Call} {t : Tg} {it : CI} {b : CSs} {env env' : En} {h h1 h2 : AH} {src : List D} {deps : List (Nat × Cell)} (e : evI call it env h = .ok (src, deps) h1) (q : evLoop (evG call t) (evSs call b) deps src env h1 = .ok (.nx env') h2) : evS call (.forr t it b) env h = .ok (.nx env') h2 := by
  rw [evS, e]
  exact q
theorem rng_len (lo : Int) (n : Nat) : (rngL lo n).length = n := by simp [rngL]
theorem rng1_nat {N : Nat} {h : AH} (hN : N ≤ 1000000) : rng1P (.int (N : Int)) h = .ok (rngL 0 N, []) h := by
  simp only [rng1P]
  rw [if_pos ⟨by unfold RB; omega, by unfold RB; omega⟩]
  rfl
theorem rng1_int {i : Int} {h : AH} (h0 : 0 ≤ i) (h1 : i ≤ 1000000) : rng1P (.int i) h = .ok (rngL 0 i.toNat, []) h := by
  simp only [rng1P]
  rw [if_pos ⟨by unfold RB; omega, by unfold RB; omega⟩]
theorem q0 : Qt 1 (0, 1) := ⟨by decide, by decide, by unfold Lt2; decide, by unfold Lt2; decide⟩
theorem q1 : Qt 1 (1, 1) := ⟨by decide, by decide, by unfold Lt2; decide, by unfold Lt2; decide⟩
def powQ (n : Nat) (x : Int × Int) : Int × Int := (x.1 ^ n, x.2 ^ n)
theorem lt2_pow {a : Nat} {v : Int} (h : Lt2 a v) (n : Nat) : Lt2 (a * n + 1) (v ^ n) := by
  unfold Lt2 at *
  rw [Int.natAbs_pow, Nat.pow_succ, Nat.pow_mul]
  have : v.natAbs ^ n ≤ (2 ^ a) ^ n := Nat.pow_le_pow_left (Nat.le_of_lt h) n
  have p : 0 < (2 ^ a) ^ n := Nat.pow_pos (Nat.pow_pos (by decide))
  omega
theorem cop_pow {a b : Int} (h : Int.gcd a b = 1) (n : Nat) : Int.gcd (a ^ n) (b ^ n) = 1 := by
  have h' : Nat.Coprime a.natAbs b.natAbs := h
  show Nat.gcd (a ^ n).natAbs (b ^ n).natAbs = 1
  rw [Int.natAbs_pow, Int.natAbs_pow]
  exact h'.pow n n
theorem qt_pow {a : Nat} {x : Int × Int} (q : Qt a x) (n : Nat) : Qt (a * n + 1) (powQ n x) := ⟨Int.pow_pos q.pos, cop_pow q.cop n, lt2_pow q.l1 n, lt2_pow q.l2 n⟩
theorem mulQ_pow {a : Nat} {x : Int × Int} (q : Qt a x) (n : Nat) : mulQ (powQ n x) x = powQ (n + 1) x := by
  have p := qt_pow q (n + 1)
  unfold mulQ
  refine red_uniq (Int.mul_ne_zero (qt_pow q n).ne q.ne) p.pos p.cop ?_
  show x.1 ^ (n + 1) * (x.2 ^ n * x.2) = x.1 ^ n * x.1 * x.2 ^ (n + 1)
  rw [Int.pow_succ, Int.pow_succ]
theorem powQ_ov {a : Nat} {x : Int × Int} (q : Qt a x) (h : x.1 ≠ 0) (n : Nat) : ovQ (1, 1) (powQ n x) = powQ n (ovQ (1, 1) x) := by
  have r := qt_ov q1 q h
  have c := red_cross (u := 1 * x.2) (d := 1 * x.1) (by simpa using h)
  have p := qt_pow r n
  have hn : x.1 ^ n ≠ 0 := Int.pow_ne_zero h
  show red (1 * x.2 ^ n) (1 * x.1 ^ n) = _
  refine red_uniq (by simpa using hn) p.pos p.cop ?_
  show (red (1 * x.2) (1 * x.1)).1 ^ n * (1 * x.1 ^ n) = 1 * x.2 ^ n * (red (1 * x.2) (1 * x.1)).2 ^ n
  simp only [Int.one_mul] at c ⊢
  rw [← Int.mul_pow, ← Int.mul_pow, c]
theorem sum_fold {a : Nat} (ha : 0 < a) : ∀ (l : List (Int × Int)), (∀ x ∈ l, Qt a x) → ∀ (b : Nat) (f : Int × Int), Qt b f → Qt (b + (a + 1) * l.length) (l.foldl sumQ f)
  | [], _, b, f, q => q
  | x :: l, h, b, f, q => by
    have := sum_fold ha l (fun y hy => h y (List.mem_cons_of_mem _ hy)) (b + a + 1) (sumQ f x) (qt_sum q (h x List.mem_cons_self))
    refine this.le ?_
    rw [List.length_cons, Nat.mul_succ]
    omega

/-! from K00e -/
/-- a walk over a tuple -/
theorem ss_ex {call : Call} {e : CE} {cs : CSs} {env : En} {h h1 : AH} {d : D} (q : evE call e env h = .ok d h1) : evSs call (.cons (.expr e) cs) env h = evSs call cs env h1 := ss_nx (by rw [evS, q]; rfl)

/-! from Law6 -/
theorem comp_ok {tg : D → AH → R En} {test : En → AH → R Bool} {elt : En → AH → R D} {deps : List (Nat × Cell)} (I : List D → List D → AH → Prop) (hd : ∀ r acc h, I r acc h → depsOk deps h = true)
    (step : ∀ x r acc h, I (x :: r) acc h → ∃ env h1 h2 y h3, tg x h = .ok env h1 ∧ test env h1 = .ok true h2 ∧ elt env h2 = .ok y h3 ∧ acc.length < SZ ∧ I r (acc ++ [y]) h3) :
    ∀ xs acc h, I xs acc h → ∃ acc' h', evComp tg test elt deps xs acc h = .ok acc' h' ∧ I [] acc' h'
  | [], acc, h, i => ⟨acc, h, by rw [evComp, hd _ _ _ i]; rfl, i⟩
  | x :: r, acc, h, i => by
    obtain ⟨env, h1, h2, y, h3, e1, e2, e3, e4, i2⟩ := step x r acc h i
    obtain ⟨acc', h', e5, i3⟩ := comp_ok I hd step r _ _ i2
    refine ⟨acc', h', ?_, i3⟩
    rw [evComp, hd _ _ _ i, if_pos rfl, e1, R.calm_ok, R.bind_ok, e2, R.calm_ok, R.bind_ok, if_pos rfl, e3, R.calm_ok, R.bind_ok, if_pos e4]
    exact e5
/-- each item by itself, the heap left alone -/
theorem comp_map {tg : D → AH → R En} {test : En → AH → R Bool} {elt : En → AH → R D} {deps : List (Nat × Cell)} {h : AH} (f : D → D) (hd : depsOk deps h = true) :
    ∀ (xs acc : List D), (∀ x ∈ xs, ∃ env, tg x h = .ok env h ∧ test env h = .ok true h ∧ elt env h = .ok (f x) h) → acc.length + xs.length ≤ SZ → evComp tg test elt deps xs acc h = .ok (acc ++ xs.map f) h
  | [], acc, _, _ => by
    rw [evComp, hd]
    simp
  | x :: r, acc, hx, hl => by
    obtain ⟨env, e1, e2, e3⟩ := hx x List.mem_cons_self
    rw [List.length_cons] at hl
    rw [evComp, hd, if_pos rfl, e1, R.calm_ok, R.bind_ok, e2, R.calm_ok, R.bind_ok, if_pos rfl, e3, R.calm_ok, R.bind_ok, if_pos (by omega), comp_map f hd r _ (fun y hy => hx y (List.mem_cons_of_mem _ hy)) (by simp; omega)]
    simp
def startB : CSs :=
    (.cons (.asg (.name 1) (.lit (.int (7))))
    (.cons (.forr (.name 2) (.val (.slice (.var 0) .none (.some (.lit (.int (63)))))) (.cons (.asg (.name 1) (.op2 .Add (.op2 .Mod (.blt .int (.cons (.op2 .Add (.op2 .Mult (.var 1) (.lit (.int (48271)))) (.var 2)) .nil)) (.lit (.int (2147483629)))) (.lit (.int (1)))))
    .nil))
    (.cons (.ret (.alloc (.lst (.cons (.alloc (.lc [2] (.name 2) (.val (.slice (.var 0) .none (.some (.lit (.int (63)))))) .none (.blt .abs (.cons (.blt .int (.cons (.var 2) .nil)) .nil)))) (.cons (.lit (.int (0))) (.cons (.lit (.int (0))) (.cons (.lit (.int (0))) (.cons (.var 1) (.cons (.lit (.int (0))) .nil)))))))))
    .nil)))
theorem cut_int (ns : List Int) (lo hi : Option Int) : ∃ ms : List Int, cutL (ns.map D.int) lo hi = ms.map .int ∧ ms.length ≤ ns.length := by
  unfold cutL
  rw [← List.map_drop, ← List.map_take]
  exact ⟨_, rfl, by simp; omega⟩
theorem get_new {h : AH} {c : Cell} : (h ++ [c])[h.length]? = some c := by simp
theorem start_ok {P : List Fn} {k j : Nat} {ns : List Int} (hP : P[j]? = some ⟨1, 3, startB⟩) (hn : ns.length ≤ 63) : ∃ n m h', evC P (k + 1) j [.rol (ns.map .int)] [] = .ok (.ref n) h' ∧ StOk h' n m 0 := by
  obtain ⟨ms, hc, hl⟩ := cut_int ns none (some 63)
  -- the seed
  obtain ⟨env', h', e, s, t, e1, s0, s1, e2, e3⟩ := loop_ok (tg := evG (evC P k) (.name 2)) (body := evSs (evC P k) (.cons (.asg (.name 1) (.op2 .Add (.op2 .Mod (.blt .int (.cons (.op2 .Add (.op2 .Mult (.var 1) (.lit (.int (48271)))) (.var 2)) .nil)) (.lit (.int (2147483629)))) (.lit (.int (1)))))
    .nil)) (deps := [(0, .lst (ms.map .int))])
    (fun r env h' => ∃ s t, env = [some (.rol (ns.map .int)), some (.int s), t] ∧ 0 ≤ s ∧ s < 2147483648 ∧ (∃ rs : List Int, r = rs.map .int) ∧ h' = [.lst (ms.map .int)]) (fun r env h' ⟨s, t, _, _, _, _, e⟩ => by
      subst e
      simp [depsOk]) (fun x r env h' ⟨s, t, e1, s0, s1, ⟨rs, e2⟩, e3⟩ => by
      subst e1 e3
      cases rs with
      | nil => cases e2
      | cons c rs =>
        rw [List.map_cons] at e2
        obtain ⟨rfl, rfl⟩ := List.cons.inj e2
        have b1 : Lt2 31 s := by unfold Lt2; omega
        have b2 : Lt2 16 (48271 : Int) := by unfold Lt2; decide
        have m1 := mulP (h := [Cell.lst (ms.map .int)]) (big2 b1 b2 (by decide) (by decide))
        have m2 : prim2 .Mod (.int (s * 48271 + c)) (.int 2147483629) [Cell.lst (ms.map .int)] = .ok (.int ((s * 48271 + c) % 2147483629)) [Cell.lst (ms.map .int)] := by simp [prim2]
        refine ⟨_, _, [some (.rol (ns.map .int)), some (.int ((s * 48271 + c) % 2147483629 + 1)), some (.int c)], _, rfl, ?_, _, _, rfl, ?_, ?_, ⟨rs, rfl⟩, rfl⟩
        · simp only [evSs, evS, evE, evEs, evG, var, R.bind_ok, List.set_cons_succ, List.set_cons_zero, List.getElem?_cons_zero, List.getElem?_cons_succ, m1, addP, blt_int, m2]
        · have := Int.emod_nonneg (s * 48271 + c) (show (2147483629 : Int) ≠ 0 by decide)
          omega
        · have := Int.emod_lt_of_pos (s * 48271 + c) (show (0 : Int) < 2147483629 by decide)
          omega) (ms.map .int) [some (.rol (ns.map .int)), some (.int 7), none] [.lst (ms.map .int)] ⟨7, none, rfl, by decide, by decide, ⟨ms, rfl⟩, rfl⟩
  subst e1 e3
  refine ⟨3, 2, [.lst (ms.map .int), .lst (ms.map .int), .lst ((ms.map fun i => (if i < 0 then -i else i)).map .int), .lst [.ref 2, .int 0, .int 0, .int 0, .int s, .int 0]], ?_, _, 0, 0, 0, s, 0, rfl, rfl, by decide, by decide, s0, s1, by decide, by decide⟩
  have sl : ∀ g : AH, sliceP (.rol (ns.map .int)) none (some 63) g = .ok (.ref g.length) (g ++ [.lst (ms.map .int)]) := fun g => by
    simp only [sliceP, hc, new]
  rw [evC_at hP rfl]
  show (evSs (evC P k) startB [some (.rol (ns.map .int)), none, none] []).bind (fin []) = _
  unfold startB
  rw [ss_nx (env1 := [some (.rol (ns.map .int)), some (.int 7), none]) (h1 := []) (by simp only [evS, evE, evG, R.bind_ok, List.set_cons_succ, List.set_cons_zero])]
  rw [ss_nx (for_nx (h1 := [.lst (ms.map .int)]) (by
    simp only [evI, evE, evO, var, List.getElem?_cons_succ, List.getElem?_cons_zero, R.bind_ok, sl]
    rfl) e)]
  have cm := comp_map (tg := fun x h => evG (evC P k) (.name 2) x (wipeE [some (.rol (ns.map .int)), some (.int s), t] [2]) h) (test := evF (evC P k) .none) (elt := evE (evC P k) (.blt .abs (.cons (.blt .int (.cons (.var 2) .nil)) .nil)))
    (deps := [(1, .lst (ms.map .int))]) (h := [.lst (ms.map .int), .lst (ms.map .int)]) (fun d => match d with
      | .int i => .int (if i < 0 then -i else i)
      | d => d) (by simp [depsOk]) (ms.map .int) [] (fun x hx => by
        obtain ⟨i, _, rfl⟩ := List.mem_map.mp hx
        refine ⟨_, rfl, by simp only [evF], ?_⟩
        simp only [evE, evEs, var, wipeE, R.bind_ok, List.set_cons_succ, List.set_cons_zero, List.getElem?_cons_zero, List.getElem?_cons_succ, blt_int, blt_abs]) (by simp; have : SZ = 16777216 := rfl; omega)
  rw [List.nil_append] at cm
  have hm : (ms.map D.int).map (fun d => match d with
      | .int i => D.int (if i < 0 then -i else i)
      | d => d) = (ms.map fun i => (if i < 0 then -i else i)).map .int := by simp
  rw [hm] at cm
  have al : evE (evC P k) (.alloc (.lc [2] (.name 2) (.val (.slice (.var 0) .none (.some (.lit (.int (63)))))) .none (.blt .abs (.cons (.blt .int (.cons (.var 2) .nil)) .nil)))) [some (.rol (ns.map .int)), some (.int s), t] [.lst (ms.map .int)] =
      .ok (.ref 2) [.lst (ms.map .int), .lst (ms.map .int), .lst ((ms.map fun i => (if i < 0 then -i else i)).map .int)] := by
    have ei : evI (evC P k) (.val (.slice (.var 0) .none (.some (.lit (.int (63)))))) [some (.rol (ns.map .int)), some (.int s), t] [.lst (ms.map .int)] = .ok (ms.map .int, [(1, .lst (ms.map .int))]) [.lst (ms.map .int), .lst (ms.map .int)] := by
      simp only [evI, evE, evO, var, List.getElem?_cons_succ, List.getElem?_cons_zero, R.bind_ok, sl]
      rfl
    rw [evE, evT, ei, R.bind_ok]
    dsimp only
    rw [cm]
    rfl
  rw [ss_rt (d := .ref 3) (h1 := [.lst (ms.map .int), .lst (ms.map .int), .lst ((ms.map fun i => (if i < 0 then -i else i)).map .int), .lst [.ref 2, .int 0, .int 0, .int 0, .int s, .int 0]]) (by
    rw [evS, evE, evT, evEs, al]
    simp [evEs, evE, var, SZ, new])]
  simp [fin, sweep, D.under]

/-! from K00f -/
theorem StOk.le {h : AH} {n m B C : Nat} (s : StOk h n m B) (e : B ≤ C) : StOk h n m C := by
  obtain ⟨xs, p, v, c, s, t, h1, h2, h3, h4, h5, h6, h7, h8⟩ := s
  exact ⟨xs, p, v, c, s, t, h1, h2, h3, h4, h5, h6, h7, by omega⟩
theorem if_no {call : Call} {t : CE} {a : CSs} {env : En} {h h' : AH} (e : evB call t env h = .ok false h') : evS call (.ifs t a .nil) env h = .ok (.nx env) h' := by
  rw [evS, e]
  rfl
theorem evB_no {call : Call} {t : CE} {env : En} {h h' : AH} (e : evE call t env h = .ok (.bl false) h') : evB call t env h = .ok false h' := by
  rw [evB, e]
  rfl
theorem tru_i {i : Int} {h : AH} : truthy (.int i) h = some (i != 0) := rfl

end RV
set_option Elab.async false
set_option linter.all false
set_option maxRecDepth 100000
set_option autoImplicit false
set_option maxHeartbeats 4000000
namespace RV.K03
open PySem PySem.Spec PyProof.Rows L2
def top (i : Nat) : Stmt := PySem.Challenge.pw_everyslope_k03_tokens_by_hand.main.body.getD i (.Pass ⟨0, 0, 0, 0⟩)
def c_SHORT : D := .str "(){}[],;:=<+-*/^"
def c_LONG : D := .tup [(.str "=="), (.str "<=")]
def c_DIGITS : D := .str "0123456789"
def c_MAX_NUM : D := .int (1000000)
def c_LETTERS : D := .str "abcdefghijklmnopqrstuvwxyz"
def c_MAX_NAME : D := .int (12)
def c_MAX_TEXT : D := .int (20000)
/-- run_of(text, at, signs) -/
def f_run_of : Fn := ⟨3, 3,
    (.cons (.whil (.and (.cmp .Lt (.var 1) (.blt .len (.cons (.var 0) .nil))) (.cmp .In (.sub (.var 0) (.var 1)) (.var 2))) (.cons (.aug 1 .Add (.lit (.int (1))))
    .nil))
    (.cons (.ret (.var 1))
    .nil))⟩
/-- token_at(text, at, end) -/
def f_token_at : Fn := ⟨2, 3,
    (.cons (.ifs (.cmp .In (.sub (.var 0) (.var 1)) (.glob 4 c_LETTERS)) (.cons (.asg (.name 2) (.call 0 (.cons (.var 0) (.cons (.var 1) (.cons (.glob 4 c_LETTERS) .nil)))))
    (.cons (.ifs (.cmp .Gt (.op2 .Sub (.var 2) (.var 1)) (.glob 5 c_MAX_NAME)) (.cons (.raise 0 (.var 1))
    .nil) .nil)
    (.cons (.ret (.tup (.cons (.tup (.cons (.lit (.str "word")) (.cons (.slice (.var 0) (.some (.var 1)) (.some (.var 2))) (.cons (.var 1) .nil)))) (.cons (.var 2) .nil))))
    .nil))) .nil)
    (.cons (.ifs (.cmp .In (.sub (.var 0) (.var 1)) (.glob 2 c_DIGITS)) (.cons (.asg (.name 2) (.call 0 (.cons (.var 0) (.cons (.var 1) (.cons (.glob 2 c_DIGITS) .nil)))))
    (.cons (.ifs (.or (.and (.cmp .Eq (.sub (.var 0) (.var 1)) (.lit (.str "0"))) (.cmp .Gt (.var 2) (.op2 .Add (.var 1) (.lit (.int (1)))))) (.or (.cmp .Gt (.op2 .Sub (.var 2) (.var 1)) (.lit (.int (7)))) (.cmp .Gt (.blt .int (.cons (.slice (.var 0) (.some (.var 1)) (.some (.var 2))) .nil)) (.glob 3 c_MAX_NUM)))) (.cons (.raise 0 (.var 1))
    .nil) .nil)
    (.cons (.ret (.tup (.cons (.tup (.cons (.lit (.str "int")) (.cons (.blt .int (.cons (.slice (.var 0) (.some (.var 1)) (.some (.var 2))) .nil)) (.cons (.var 1) .nil)))) (.cons (.var 2) .nil))))
    .nil))) .nil)
    (.cons (.ifs (.cmp .In (.slice (.var 0) (.some (.var 1)) (.some (.op2 .Add (.var 1) (.lit (.int (2)))))) (.glob 1 c_LONG)) (.cons (.ret (.tup (.cons (.tup (.cons (.lit (.str "sign")) (.cons (.slice (.var 0) (.some (.var 1)) (.some (.op2 .Add (.var 1) (.lit (.int (2)))))) (.cons (.var 1) .nil)))) (.cons (.op2 .Add (.var 1) (.lit (.int (2)))) .nil))))
    .nil) .nil)
    (.cons (.ifs (.cmp .NotIn (.sub (.var 0) (.var 1)) (.glob 0 c_SHORT)) (.cons (.raise 0 (.var 1))
    .nil) .nil)
    (.cons (.ret (.tup (.cons (.tup (.cons (.lit (.str "sign")) (.cons (.sub (.var 0) (.var 1)) (.cons (.var 1) .nil)))) (.cons (.op2 .Add (.var 1) (.lit (.int (1)))) .nil))))
    .nil)))))⟩
/-- tokens(text, found, at, token) -/
def f_tokens : Fn := ⟨1, 4,
    (.cons (.ifs (.or (.not (.isi (.var 0) .str)) (.cmp .Gt (.blt .len (.cons (.var 0) .nil)) (.glob 6 c_MAX_TEXT))) (.cons .never
    .nil) .nil)
    (.cons (.asg (.tup (.cons (.name 1) (.cons (.name 2) .nil))) (.tup (.cons (.alloc (.lst .nil)) (.cons (.call 0 (.cons (.var 0) (.cons (.lit (.int (0))) (.cons (.lit (.str " \n")) .nil)))) .nil))))
    (.cons (.whil (.cmp .Lt (.var 2) (.blt .len (.cons (.var 0) .nil))) (.cons (.asg (.tup (.cons (.name 3) (.cons (.name 2) .nil))) (.call 1 (.cons (.var 0) (.cons (.var 2) .nil))))
    (.cons (.expr (.meth .append (.var 1) (.cons (.var 3) .nil)))
    (.cons (.asg (.name 2) (.call 0 (.cons (.var 0) (.cons (.var 2) (.cons (.lit (.str " \n")) .nil)))))
    .nil))))
    (.cons (.ret (.blt .tup (.cons (.var 1) .nil)))
    .nil))))⟩
/-- _law_start(script, seed, cell) -/
def f__law_start : Fn := ⟨1, 3,
    (.cons (.asg (.name 1) (.lit (.int (7))))
    (.cons (.forr (.name 2) (.val (.slice (.var 0) .none (.some (.lit (.int (63)))))) (.cons (.asg (.name 1) (.op2 .Add (.op2 .Mod (.blt .int (.cons (.op2 .Add (.op2 .Mult (.var 1) (.lit (.int (48271)))) (.var 2)) .nil)) (.lit (.int (2147483629)))) (.lit (.int (1)))))
    .nil))
    (.cons (.ret (.alloc (.lst (.cons (.alloc (.lc [2] (.name 2) (.val (.slice (.var 0) .none (.some (.lit (.int (63)))))) .none (.blt .abs (.cons (.blt .int (.cons (.var 2) .nil)) .nil)))) (.cons (.lit (.int (0))) (.cons (.lit (.int (0))) (.cons (.lit (.int (0))) (.cons (.var 1) (.cons (.lit (.int (0))) .nil)))))))))
    .nil)))⟩
/-- _law_draw(state, many, found) -/
def f__law_draw : Fn := ⟨2, 3,
    (.cons (.ifs (.and (.cmp .Eq (.sub (.var 0) (.lit (.int (3)))) (.lit (.int (0)))) (.cmp .Lt (.sub (.var 0) (.lit (.int (1)))) (.blt .len (.cons (.sub (.var 0) (.lit (.int (0)))) .nil)))) (.cons (.asg (.tup (.cons (.sub (.var 0) (.lit (.int (2)))) (.cons (.sub (.var 0) (.lit (.int (3)))) (.cons (.sub (.var 0) (.lit (.int (1)))) .nil)))) (.tup (.cons (.sub (.sub (.var 0) (.lit (.int (0)))) (.sub (.var 0) (.lit (.int (1))))) (.cons (.lit (.int (60))) (.cons (.op2 .Add (.sub (.var 0) (.lit (.int (1)))) (.lit (.int (1)))) .nil)))))
    .nil) .nil)
    (.cons (.ifs (.cmp .Gt (.sub (.var 0) (.lit (.int (3)))) (.lit (.int (0)))) (.cons (.asg (.name 2) (.op2 .Mod (.blt .int (.cons (.sub (.var 0) (.lit (.int (2)))) .nil)) (.var 1)))
    (.cons (.asg (.sub (.var 0) (.lit (.int (2)))) (.op2 .FloorDiv (.sub (.var 0) (.lit (.int (2)))) (.var 1)))
    (.cons (.asg (.sub (.var 0) (.lit (.int (3)))) (.ite (.cmp .Gt (.sub (.var 0) (.lit (.int (2)))) (.lit (.int (0)))) (.op2 .Sub (.sub (.var 0) (.lit (.int (3)))) (.lit (.int (1)))) (.lit (.int (0)))))
    (.cons (.ret (.var 2))
    .nil)))) .nil)
    (.cons (.asg (.sub (.var 0) (.lit (.int (5)))) (.op2 .Add (.sub (.var 0) (.lit (.int (5)))) (.lit (.int (1)))))
    (.cons (.asg (.sub (.var 0) (.lit (.int (4)))) (.op2 .Mod (.blt .int (.cons (.op2 .Add (.op2 .Add (.op2 .Mult (.sub (.var 0) (.lit (.int (4)))) (.lit (.int (48271)))) (.op2 .Mult (.op2 .Mult (.sub (.var 0) (.lit (.int (5)))) (.sub (.var 0) (.lit (.int (5))))) (.lit (.int (69621))))) (.lit (.int (11)))) .nil)) (.lit (.int (2147483647)))))
    (.cons (.ret (.op2 .Mod (.blt .int (.cons (.op2 .FloorDiv (.sub (.var 0) (.lit (.int (4)))) (.lit (.int (13)))) .nil)) (.var 1)))
    .nil)))))⟩
/-- _law_pick(state, some) -/
def f__law_pick : Fn := ⟨2, 2,
    (.cons (.ret (.sub (.var 1) (.call 4 (.cons (.var 0) (.cons (.blt .len (.cons (.var 1) .nil)) .nil)))))
    .nil)⟩
/-- _law_same(actual, due) -/
def f__law_same : Fn := ⟨2, 2,
    (.cons (.ret (.and (.cmp .Eq (.var 0) (.var 1)) (.cmp .Eq (.blt .repr (.cons (.var 0) .nil)) (.blt .repr (.cons (.var 1) .nil)))))
    .nil)⟩
/-- _law_run(text, at, signs, k) -/
def f__law_run : Fn := ⟨3, 4,
    (.cons (.ret (.sub (.alloc (.lc [3] (.name 3) (.rng2 (.var 1) (.op2 .Add (.blt .len (.cons (.var 0) .nil)) (.lit (.int (1))))) (.some (.or (.cmp .Eq (.var 3) (.blt .len (.cons (.var 0) .nil))) (.cmp .NotIn (.sub (.var 0) (.var 3)) (.var 2)))) (.var 3))) (.lit (.int (0)))))
    .nil)⟩
/-- _law_cut(text, turn, found, at, letters, digits, sign, end, own) -/
def f__law_cut : Fn := ⟨1, 9,
    (.cons (.asg (.tup (.cons (.name 2) (.cons (.name 3) .nil))) (.tup (.cons (.alloc (.lst .nil)) (.cons (.lit (.int (0))) .nil))))
    (.cons (.asg (.tup (.cons (.name 4) (.cons (.name 5) .nil))) (.tup (.cons (.lit (.str "abcdefghijklmnopqrstuvwxyz")) (.cons (.lit (.str "0123456789")) .nil))))
    (.cons (.forr (.name 1) (.rng1 (.blt .len (.cons (.var 0) .nil))) (.cons (.asg (.name 3) (.call 7 (.cons (.var 0) (.cons (.var 3) (.cons (.lit (.str " \n")) .nil)))))
    (.cons (.ifs (.cmp .Eq (.var 3) (.blt .len (.cons (.var 0) .nil))) (.cons (.ret (.blt .tup (.cons (.var 2) .nil)))
    .nil) .nil)
    (.cons (.asg (.name 6) (.sub (.var 0) (.var 3)))
    (.cons (.ifs (.or (.cmp .In (.var 6) (.var 4)) (.cmp .In (.var 6) (.var 5))) (.cons (.asg (.name 7) (.call 7 (.cons (.var 0) (.cons (.var 3) (.cons (.ite (.cmp .In (.var 6) (.var 4)) (.var 4) (.var 5)) .nil)))))
    (.cons (.asg (.name 8) (.slice (.var 0) (.some (.var 3)) (.some (.var 7))))
    (.cons (.ifs (.or (.and (.cmp .In (.var 6) (.var 4)) (.cmp .Gt (.blt .len (.cons (.var 8) .nil)) (.lit (.int (12))))) (.and (.cmp .In (.var 6) (.var 5)) (.or (.and (.cmp .Gt (.blt .len (.cons (.var 8) .nil)) (.lit (.int (1)))) (.cmp .Eq (.var 6) (.lit (.str "0")))) (.cmp .Gt (.blt .int (.cons (.var 8) .nil)) (.lit (.int (1000000))))))) (.cons (.ret (.var 3))
    .nil) .nil)
    (.cons (.expr (.meth .append (.var 2) (.cons (.ite (.cmp .In (.var 6) (.var 4)) (.tup (.cons (.lit (.str "word")) (.cons (.var 8) (.cons (.var 3) .nil)))) (.tup (.cons (.lit (.str "int")) (.cons (.blt .int (.cons (.var 8) .nil)) (.cons (.var 3) .nil))))) .nil)))
    .nil)))) (.cons (.asg (.name 8) (.ite (.cmp .In (.slice (.var 0) (.some (.var 3)) (.some (.op2 .Add (.var 3) (.lit (.int (2)))))) (.alloc (.lst (.cons (.lit (.str "==")) (.cons (.lit (.str "<=")) .nil))))) (.slice (.var 0) (.some (.var 3)) (.some (.op2 .Add (.var 3) (.lit (.int (2)))))) (.var 6)))
    (.cons (.asg (.name 7) (.op2 .Add (.var 3) (.blt .len (.cons (.var 8) .nil))))
    (.cons (.ifs (.cmp .NotIn (.var 6) (.lit (.str "(){}[],;:=<+-*/^"))) (.cons (.ret (.var 3))
    .nil) .nil)
    (.cons (.expr (.meth .append (.var 2) (.cons (.tup (.cons (.lit (.str "sign")) (.cons (.var 8) (.cons (.var 3) .nil)))) .nil)))
    .nil)))))
    (.cons (.asg (.name 3) (.var 7))
    .nil))))))
    (.cons (.ret (.blt .tup (.cons (.var 2) .nil)))
    .nil))))⟩
/-- _law_read(text, error) -/
def f__law_read : Fn := ⟨1, 2,
    (.cons (.tryR (.cons (.ret (.call 2 (.cons (.var 0) .nil)))
    .nil) 0 1 1 .fld)
    .nil)⟩
/-- law(script, state, pieces, turn, text, k) -/
def f_law : Fn := ⟨1, 6,
    (.cons (.asg (.name 1) (.call 3 (.cons (.var 0) .nil)))
    (.cons (.asg (.name 2) (.alloc (.lst (.cons (.lit (.str "fun")) (.cons (.lit (.str "x")) (.cons (.lit (.str "abcdefghijkl")) (.cons (.lit (.str "abcdefghijklm")) (.cons (.lit (.str "0")) (.cons (.lit (.str "00")) (.cons (.lit (.str "7")) (.cons (.lit (.str "1000000")) (.cons (.lit (.str "1000001")) (.cons (.lit (.str "012")) (.cons (.lit (.str "12")) (.cons (.lit (.str " ")) (.cons (.lit (.str "\n")) (.cons (.lit (.str "  ")) (.cons (.lit (.str " ")) .nil))))))))))))))))))
    (.cons (.asg (.name 2) (.op2 .Add (.var 2) (.alloc (.lst (.cons (.lit (.str "=")) (.cons (.lit (.str "==")) (.cons (.lit (.str "<")) (.cons (.lit (.str "<=")) (.cons (.lit (.str "===")) (.cons (.lit (.str "(")) (.cons (.lit (.str ")")) (.cons (.lit (.str "{")) (.cons (.lit (.str "}")) (.cons (.lit (.str "[")) (.cons (.lit (.str "]")) (.cons (.lit (.str ",")) (.cons (.lit (.str ";")) (.cons (.lit (.str ":")) (.cons (.lit (.str "+")) (.cons (.lit (.str "-")) (.cons (.lit (.str "*")) (.cons (.lit (.str "/")) (.cons (.lit (.str "^")) (.cons (.lit (.str "A")) (.cons (.lit (.str ".")) (.cons (.lit (.str ">")) (.cons (.lit (.str "!")) (.cons (.lit (.str "_")) .nil))))))))))))))))))))))))))))
    (.cons (.forr (.name 3) (.rng1 (.lit (.int (60)))) (.cons (.asg (.name 4) (.join (.lit (.str "")) (.lc [5] (.name 5) (.rng1 (.call 4 (.cons (.var 1) (.cons (.lit (.int (9))) .nil)))) .none (.call 5 (.cons (.var 1) (.cons (.ite (.cmp .Eq (.call 4 (.cons (.var 1) (.cons (.lit (.int (12))) .nil))) (.lit (.int (0)))) (.var 2) (.slice (.var 2) .none (.some (.lit (.int (34)))))) .nil))))))
    (.cons (.ifs (.not (.call 6 (.cons (.call 9 (.cons (.var 4) .nil)) (.cons (.call 8 (.cons (.var 4) .nil)) .nil)))) (.cons (.ret (.lit (.bl false)))
    .nil) .nil)
    .nil)))
    (.cons (.ret (.and (.cmp .Eq (.call 2 (.cons (.lit (.str "")) .nil)) (.tup .nil)) (.and (.cmp .Eq (.call 2 (.cons (.lit (.str " \n ")) .nil)) (.tup .nil)) (.and (.cmp .Eq (.call 2 (.cons (.lit (.str "a1")) .nil)) (.tup (.cons (.tup (.cons (.lit (.str "word")) (.cons (.lit (.str "a")) (.cons (.lit (.int (0))) .nil)))) (.cons (.tup (.cons (.lit (.str "int")) (.cons (.lit (.int (1))) (.cons (.lit (.int (1))) .nil)))) .nil)))) (.cmp .Eq (.call 9 (.cons (.lit (.str "99999999")) .nil)) (.lit (.int (0))))))))
    .nil)))))⟩
def tabl : Tab where
  fns := ("run_of" : Str) :: ("token_at" : Str) :: ("tokens" : Str) :: ("_law_start" : Str) :: ("_law_draw" : Str) :: ("_law_pick" : Str) :: ("_law_same" : Str) :: ("_law_run" : Str) :: ("_law_cut" : Str) :: ("_law_read" : Str) :: ("law" : Str) :: []
  free := ("abs" : Str) :: ("int" : Str) :: ("isinstance" : Str) :: ("len" : Str) :: ("range" : Str) :: ("repr" : Str) :: ("str" : Str) :: ("tuple" : Str) :: []
  bfn := []
  cons := (("SHORT" : Str), c_SHORT) :: (("LONG" : Str), c_LONG) :: (("DIGITS" : Str), c_DIGITS) :: (("MAX_NUM" : Str), c_MAX_NUM) :: (("LETTERS" : Str), c_LETTERS) :: (("MAX_NAME" : Str), c_MAX_NAME) :: (("MAX_TEXT" : Str), c_MAX_TEXT) :: []
  exc := (("TextError" : Str), ("at" : Str)) :: []
def prg : List Fn := f_run_of :: f_token_at :: f_tokens :: f__law_start :: f__law_draw :: f__law_pick :: f__law_same :: f__law_run :: f__law_cut :: f__law_read :: f_law :: []
def sts : List Stmt := top 12 :: top 13 :: top 14 :: top 16 :: top 17 :: top 18 :: top 19 :: top 20 :: top 21 :: top 22 :: top 23 :: []
theorem k_run_of : Part tabl (("text" : Str) :: ("at" : Str) :: ("signs" : Str) :: []) f_run_of (top 12) := ⟨by decide +kernel, fun _ _ _ _ _ _ _ _ _ _ us hl => match us, hl with | [_, _, _], _ => rfl⟩
theorem k_token_at : Part tabl (("text" : Str) :: ("at" : Str) :: ("end" : Str) :: []) f_token_at (top 13) := ⟨by decide +kernel, fun _ _ _ _ _ _ _ _ _ _ us hl => match us, hl with | [_, _], _ => rfl⟩
theorem k_tokens : Part tabl (("text" : Str) :: ("found" : Str) :: ("at" : Str) :: ("token" : Str) :: []) f_tokens (top 14) := ⟨by decide +kernel, fun _ _ _ _ _ _ _ _ _ _ us hl => match us, hl with | [_], _ => rfl⟩
theorem k__law_start : Part tabl (("script" : Str) :: ("seed" : Str) :: ("cell" : Str) :: []) f__law_start (top 16) := ⟨by decide +kernel, fun _ _ _ _ _ _ _ _ _ _ us hl => match us, hl with | [_], _ => rfl⟩
theorem k__law_draw : Part tabl (("state" : Str) :: ("many" : Str) :: ("found" : Str) :: []) f__law_draw (top 17) := ⟨by decide +kernel, fun _ _ _ _ _ _ _ _ _ _ us hl => match us, hl with | [_, _], _ => rfl⟩
theorem k__law_pick : Part tabl (("state" : Str) :: ("some" : Str) :: []) f__law_pick (top 18) := ⟨by decide +kernel, fun _ _ _ _ _ _ _ _ _ _ us hl => match us, hl with | [_, _], _ => rfl⟩
theorem k__law_same : Part tabl (("actual" : Str) :: ("due" : Str) :: []) f__law_same (top 19) := ⟨by decide +kernel, fun _ _ _ _ _ _ _ _ _ _ us hl => match us, hl with | [_, _], _ => rfl⟩
theorem k__law_run : Part tabl (("text" : Str) :: ("at" : Str) :: ("signs" : Str) :: ("k" : Str) :: []) f__law_run (top 20) := ⟨by decide +kernel, fun _ _ _ _ _ _ _ _ _ _ us hl => match us, hl with | [_, _, _], _ => rfl⟩
theorem k__law_cut : Part tabl (("text" : Str) :: ("turn" : Str) :: ("found" : Str) :: ("at" : Str) :: ("letters" : Str) :: ("digits" : Str) :: ("sign" : Str) :: ("end" : Str) :: ("own" : Str) :: []) f__law_cut (top 21) := ⟨by decide +kernel, fun _ _ _ _ _ _ _ _ _ _ us hl => match us, hl with | [_], _ => rfl⟩
theorem k__law_read : Part tabl (("text" : Str) :: ("error" : Str) :: []) f__law_read (top 22) := ⟨by decide +kernel, fun _ _ _ _ _ _ _ _ _ _ us hl => match us, hl with | [_], _ => rfl⟩
theorem k_law : Part tabl (("script" : Str) :: ("state" : Str) :: ("pieces" : Str) :: ("turn" : Str) :: ("text" : Str) :: ("k" : Str) :: []) f_law (top 23) := ⟨by decide +kernel, fun _ _ _ _ _ _ _ _ _ _ us hl => match us, hl with | [_], _ => rfl⟩
theorem parts : Parts tabl tabl.fns sts prg := (.cons k_run_of (.cons k_token_at (.cons k_tokens (.cons k__law_start (.cons k__law_draw (.cons k__law_pick (.cons k__law_same (.cons k__law_run (.cons k__law_cut (.cons k__law_read (.cons k_law .nil)))))))))))
-- 0 run_of
-- 1 token_at
-- 2 tokens
-- 3 _law_start
-- 4 _law_draw
-- 5 _law_pick
-- 6 _law_same
-- 7 _law_run
-- 8 _law_cut
-- 9 _law_read
-- 10 law
def clsInit (j : Nat) (st : Stmt) : Stmt := match st with
  | .ClassDef _ _ _ b _ _ _ _ _ _ _ => b.getD j (.Pass ⟨0, 0, 0, 0⟩)
  | _ => .Pass ⟨0, 0, 0, 0⟩
def exs : List ExD := [⟨"TextError", "at", clsInit 0 (top 2)⟩]
theorem x_TextError : ExP PySem.Challenge.pw_everyslope_k03_tokens_by_hand ⟨"TextError", "at", clsInit 0 (top 2)⟩ := ⟨by decide +kernel, _, _, _, _, _, _, _, _, _, _, _, _, _, _, _, rfl, rfl, ⟨rfl, rfl, rfl, rfl, rfl, rfl, rfl, by decide +kernel⟩, by decide +kernel, by decide +kernel, by decide +kernel, fun _ _ _ _ _ _ _ _ _ _ _ => rfl, fun _ => ⟨_, rfl⟩⟩
theorem exs_ok : ∀ d ∈ exs, ExP PySem.Challenge.pw_everyslope_k03_tokens_by_hand d := by
  intro d h
  unfold exs at h
  rcases List.mem_cons.mp h with rfl | h
  · exact x_TextError
  cases h
end RV.K03
set_option Elab.async false
set_option linter.all false
set_option maxRecDepth 100000
set_option autoImplicit false
set_option maxHeartbeats 4000000
namespace RV
open PySem PySem.Spec PyProof.Rows L2
/-- how far signs of S go from a on -/
def rn (L S : List Nat) (a : Int) : Int := a + (((L.drop a.toNat).takeWhile fun c => decide (c ∈ S)).length : Int)
theorem rn_in {L S : List Nat} {a : Int} {c : Nat} (h0 : 0 ≤ a) (hc : L[a.toNat]? = some c) (hs : c ∈ S) : rn L S a = rn L S (a + 1) := by
  unfold rn
  obtain ⟨hlt, e⟩ := List.getElem?_eq_some_iff.mp hc
  rw [show (a + 1).toNat = a.toNat + 1 by omega, List.drop_eq_getElem_cons hlt, e, List.takeWhile_cons, if_pos (by simpa using hs), List.length_cons]
  omega
theorem rn_out {L S : List Nat} {a : Int} {c : Nat} (hc : L[a.toNat]? = some c) (hs : c ∉ S) : rn L S a = a := by
  unfold rn
  obtain ⟨hlt, e⟩ := List.getElem?_eq_some_iff.mp hc
  rw [List.drop_eq_getElem_cons hlt, e, List.takeWhile_cons, if_neg (by simpa using hs)]
  simp
theorem rn_end {L S : List Nat} {a : Int} (h : L.length ≤ a.toNat) : rn L S a = a := by
  unfold rn
  rw [List.drop_eq_nil_of_le h]
  simp
theorem rn_le {L S : List Nat} {a : Int} (h0 : 0 ≤ a) (h : a ≤ L.length) : a ≤ rn L S a ∧ rn L S a ≤ L.length := by
  unfold rn
  have h1 : ((L.drop a.toNat).takeWhile fun c => decide (c ∈ S)).length ≤ (L.drop a.toNat).length := (List.takeWhile_sublist _).length_le
  rw [List.length_drop] at h1
  omega
section
variable {t s : Str} {h : AH} {a n : Int}
theorem len_str (hl : (t.length : Int) = n) (hz : t.length ≤ SZ) : blt .len [.str t] h = .ok (.int n) h := by
  subst hl
  simp only [blt, if_pos hz]
theorem sub_str {c : Nat} (hz : t.length ≤ SZ) (h0 : 0 ≤ a) (hc : t.cps.toList[a.toNat]? = some c) : subP (.str t) (.int a) h = .ok (.str ⟨#[c]⟩) h := by
  have e : L2.atI t.cps.toList a = some c := by
    have := L2.atI_nat hc
    rw [show ((a.toNat : Nat) : Int) = a by omega] at this
    exact this
  simp only [subP, if_pos hz, e]
theorem in_str {c : Nat} : inP (.str ⟨#[c]⟩) (.str s) h = some (decide (c ∈ s.cps.toList)) := rfl
theorem comp_filter {tg : D → AH → R En} {test : En → AH → R Bool} {elt : En → AH → R D} {h : AH} (f : D → Bool) :
    ∀ (xs acc : List D), (∀ x ∈ xs, ∃ env, tg x h = .ok env h ∧ test env h = .ok (f x) h ∧ elt env h = .ok x h) → acc.length + xs.length ≤ SZ → evComp tg test elt [] xs acc h = .ok (acc ++ xs.filter f) h
  | [], acc, _, _ => by
    rw [evComp]
    simp [depsOk]
  | x :: r, acc, hx, hl => by
    obtain ⟨env, e1, e2, e3⟩ := hx x List.mem_cons_self
    rw [List.length_cons] at hl
    rw [evComp, if_pos (show depsOk [] h = true from rfl), e1, R.calm_ok, R.bind_ok, e2, R.calm_ok, R.bind_ok]
    cases hf : f x with
    | true =>
      rw [if_pos rfl, e3, R.calm_ok, R.bind_ok, if_pos (by omega), comp_filter f r _ (fun y hy => hx y (List.mem_cons_of_mem _ hy)) (by simp; omega), List.filter_cons, if_pos hf]
      simp
    | false =>
      rw [if_neg (by decide), comp_filter f r _ (fun y hy => hx y (List.mem_cons_of_mem _ hy)) (by omega), List.filter_cons, if_neg (by simp [hf])]
end
end RV
namespace RV.K03
open PySem PySem.Spec PyProof.Rows L2
variable {k : Nat} {h : AH} {t s : Str} {a n : Int}
def tsRun : CE := .and (.cmp .Lt (.var 1) (.blt .len (.cons (.var 0) .nil))) (.cmp .In (.sub (.var 0) (.var 1)) (.var 2))
theorem run_while {call : Call} (hl : (t.length : Int) = n) (hz : t.length ≤ SZ) : ∀ (m : Nat) (a : Int), 0 ≤ a → a ≤ n → (n - a).toNat < m →
    ∃ r, evWhile (evB call tsRun) (evSs call (.cons (.aug 1 .Add (.lit (.int (1)))) .nil)) m [some (.str t), some (.int a), some (.str s)] h = .ok (.nx [some (.str t), some (.int r), some (.str s)]) h ∧ r = rn t.cps.toList s.cps.toList a
  | 0, a, _, _, hm => by omega
  | m + 1, a, h0, h1, hm => by
    have hL : t.cps.toList.length = t.length := Array.length_toList
    rw [evWhile]
    by_cases hlt : a < n
    · have hlt' : a.toNat < t.cps.toList.length := by omega
      have hc := List.getElem?_eq_getElem hlt'
      generalize t.cps.toList[a.toNat] = c at hc
      have d1 : decide (a < n) = true := decide_eq_true hlt
      by_cases hs : c ∈ s.cps.toList
      · have d2 : decide (c ∈ s.cps.toList) = true := decide_eq_true hs
        obtain ⟨r, e, er⟩ := run_while hl hz m (a + 1) (by omega) (by omega) (by omega)
        refine ⟨r, ?_, by rw [rn_in h0 hc hs]; exact er⟩
        have ht : evB call tsRun [some (.str t), some (.int a), some (.str s)] h = .ok true h := by
          simp only [tsRun, evB, evE, evEs, var, R.bind_ok, List.getElem?_cons_zero, List.getElem?_cons_succ, len_str hl hz, cmpP, d1, ofO, tru_bl, if_true, sub_str hz h0 hc, in_str, d2]
        have hb : evSs call (.cons (.aug 1 .Add (.lit (.int (1)))) .nil) [some (.str t), some (.int a), some (.str s)] h = .ok (.nx [some (.str t), some (.int (a + 1)), some (.str s)]) h := by
          simp only [evSs, evS, evE, var, R.bind_ok, List.getElem?_cons_zero, List.getElem?_cons_succ, iopP, if_true, addP, List.set_cons_zero, List.set_cons_succ]
        rw [ht, R.bind_ok, if_pos rfl, hb, R.bind_ok]
        exact e
      · have d2 : decide (c ∈ s.cps.toList) = false := decide_eq_false hs
        refine ⟨a, ?_, (rn_out hc hs).symm⟩
        have ht : evB call tsRun [some (.str t), some (.int a), some (.str s)] h = .ok false h := by
          simp only [tsRun, evB, evE, evEs, var, R.bind_ok, List.getElem?_cons_zero, List.getElem?_cons_succ, len_str hl hz, cmpP, d1, ofO, tru_bl, if_true, sub_str hz h0 hc, in_str, d2]
        rw [ht, R.bind_ok, if_neg (by decide)]
    · have d1 : decide (a < n) = false := decide_eq_false hlt
      refine ⟨a, ?_, (rn_end (by omega)).symm⟩
      have ht : evB call tsRun [some (.str t), some (.int a), some (.str s)] h = .ok false h := by
        simp only [tsRun, evB, evE, evEs, var, R.bind_ok, List.getElem?_cons_zero, List.getElem?_cons_succ, len_str hl hz, cmpP, d1, ofO, tru_bl, Bool.false_eq_true, if_false]
      rw [ht, R.bind_ok, if_neg (by decide)]
theorem v_run (hl : (t.length : Int) = n) (hz : t.length ≤ 1000) (h0 : 0 ≤ a) (h1 : a ≤ n) : ∃ r, evC prg (k + 1) 0 [.str t, .int a, .str s] h = .ok (.int r) h ∧ r = rn t.cps.toList s.cps.toList a := by
  have hz' : t.length ≤ SZ := by have : SZ = 16777216 := rfl; omega
  obtain ⟨r, e, er⟩ := run_while (call := evC prg k) (h := h) (s := s) hl hz' FUEL a h0 h1 (Nat.lt_of_lt_of_le (show (n - a).toNat < 2 ^ 10 by omega) (Nat.pow_le_pow_right (by decide) (by decide)))
  refine ⟨r, ?_, er⟩
  refine ent [some (.str t), some (.int a), some (.str s)] (show prg[0]? = some f_run_of from rfl) rfl rfl ?_
  rw [ss_nx (env1 := [some (.str t), some (.int r), some (.str s)]) (h1 := h) (by rw [evS]; exact e)]
  exact ss_rt (by simp only [evS, evE, var, R.bind_ok, List.getElem?_cons_zero, List.getElem?_cons_succ])
/-- the law's own way -/
theorem filt (L S : List Nat) (n : Int) (hn : (L.length : Int) = n) (f : D → Bool) (hf : ∀ i : Int, 0 ≤ i → i ≤ n → f (.int i) = (decide (i = n) || match L[i.toNat]? with
    | some c => decide (c ∉ S)
    | none => true)) : ∀ (m : Nat) (a : Int), 0 ≤ a → a ≤ n → m = (n + 1 - a).toNat → ∃ r, (rngL a m).filter f = .int (rn L S a) :: r
  | 0, a, _, h1, hm => by omega
  | m + 1, a, h0, h1, hm => by
    have e : rngL a (m + 1) = .int a :: rngL (a + 1) m := by
      unfold rngL
      rw [List.range_succ_eq_map, List.map_cons, List.map_map]
      congr 1
      · simp
      · refine List.map_congr_left fun i _ => ?_
        simp only [Function.comp]
        congr 1
        push_cast
        omega
    rw [e, List.filter_cons, hf a h0 h1]
    by_cases ha : a = n
    · subst ha
      rw [if_pos (by simp), rn_end (by omega)]
      exact ⟨_, rfl⟩
    · have hlt : a.toNat < L.length := by omega
      have hc := List.getElem?_eq_getElem hlt
      generalize L[a.toNat] = c at hc
      rw [hc]
      by_cases hs : c ∈ S
      · rw [if_neg (by simp [ha, hs])]
        obtain ⟨r, er⟩ := filt L S n hn f hf m (a + 1) (by omega) (by omega) (by omega)
        exact ⟨r, by rw [er, rn_in h0 hc hs]⟩
      · rw [if_pos (by simp [hs]), rn_out hc hs]
        exact ⟨_, rfl⟩
theorem v_lrun (hl : (t.length : Int) = n) (hz : t.length ≤ 1000) (h0 : 0 ≤ a) (h1 : a ≤ n) : ∃ r, evC prg (k + 1) 7 [.str t, .int a, .str s] h = .ok (.int r) h ∧ r = rn t.cps.toList s.cps.toList a := by
  have hz' : t.length ≤ SZ := by have : SZ = 16777216 := rfl; omega
  have hL : t.cps.toList.length = t.length := Array.length_toList
  have hsz : SZ = 16777216 := rfl
  let f : D → Bool := fun d => match d with
    | .int i => decide (i = n) || match t.cps.toList[i.toNat]? with
      | some c => decide (c ∉ s.cps.toList)
      | none => true
    | _ => false
  obtain ⟨fr, ef⟩ := filt t.cps.toList s.cps.toList n (by omega) f (fun i _ _ => rfl) (n + 1 - a).toNat a h0 h1 rfl
  refine ⟨rn t.cps.toList s.cps.toList a, ?_, rfl⟩
  generalize hr : rn t.cps.toList s.cps.toList a = r at *
  have cm := comp_filter (tg := fun x h => evG (evC prg k) (.name 3) x (wipeE [some (.str t), some (.int a), some (.str s), none] [3]) h) (test := evF (evC prg k) (.some (.or (.cmp .Eq (.var 3) (.blt .len (.cons (.var 0) .nil))) (.cmp .NotIn (.sub (.var 0) (.var 3)) (.var 2))))) (elt := evE (evC prg k) (.var 3)) (h := h) f (rngL a (n + 1 - a).toNat) [] (fun x hx => by
      simp only [rngL, List.mem_map, List.mem_range] at hx
      obtain ⟨i, hi, rfl⟩ := hx
      generalize hj : a + (i : Int) = j
      have j0 : 0 ≤ j := by omega
      have j1 : j ≤ n := by omega
      refine ⟨_, rfl, ?_, rfl⟩
      by_cases e : j = n
      · have d : decide (j = n) = true := decide_eq_true e
        have : f (.int j) = true := by
          show (decide (j = n) || _) = true
          rw [d]
          rfl
        rw [this]
        simp only [evF, evE, evEs, var, wipeE, R.bind_ok, List.set_cons_zero, List.set_cons_succ, List.getElem?_cons_zero, List.getElem?_cons_succ, len_str hl hz', cmpP, deq_i, d, ofO, tru_bl, if_true]
      · have d : decide (j = n) = false := decide_eq_false e
        have hlt : j.toNat < t.cps.toList.length := by omega
        have hc := List.getElem?_eq_getElem hlt
        generalize t.cps.toList[j.toNat] = c at hc
        have : f (.int j) = !decide (c ∈ s.cps.toList) := by
          show (decide (j = n) || match t.cps.toList[j.toNat]? with
            | some c => decide (c ∉ s.cps.toList)
            | none => true) = _
          rw [d, hc]
          simp
        rw [this]
        simp only [evF, evE, evEs, var, wipeE, R.bind_ok, List.set_cons_zero, List.set_cons_succ, List.getElem?_cons_zero, List.getElem?_cons_succ, len_str hl hz', cmpP, deq_i, d, ofO, tru_bl, Bool.false_eq_true, if_false, sub_str hz' j0 hc, in_str]) (by simp [rngL]; omega)
  rw [List.nil_append, ef] at cm
  have ei : evI (evC prg k) (.rng2 (.var 1) (.op2 .Add (.blt .len (.cons (.var 0) .nil)) (.lit (.int (1))))) [some (.str t), some (.int a), some (.str s), none] h = .ok (rngL a (n + 1 - a).toNat, []) h := by
    have c : -RB ≤ a ∧ a < RB ∧ -RB ≤ n + 1 ∧ n + 1 < RB := by
      unfold RB
      omega
    simp only [evI, evE, evEs, var, R.bind_ok, List.getElem?_cons_zero, List.getElem?_cons_succ, len_str hl hz', addP, rng2P, if_pos c]
  rw [evC_at (fn := f__law_run) rfl rfl]
  show (evSs (evC prg k) f__law_run.body [some (.str t), some (.int a), some (.str s), none] h).bind (fin h) = _
  have st : evSs (evC prg k) f__law_run.body [some (.str t), some (.int a), some (.str s), none] h = .ok (.rt (.int r)) (h ++ [.lst (.int r :: fr)]) := by
    unfold f__law_run
    refine ss_rt ?_
    rw [evS, evE, evE, evT, ei, R.bind_ok]
    dsimp only
    rw [cm, R.bind_ok]
    have g : L2.atI (D.int r :: fr) 0 = some (.int r) := by
      have := L2.atI_nat (xs := D.int r :: fr) (j := 0) rfl
      exact this
    simp only [new, R.bind_ok, evE, subP_ref (h := h ++ [.lst (.int r :: fr)]) get_new g]
  rw [st, R.bind_ok]
  simp [fin, sweep, D.under]
end RV.K03
set_option Elab.async false
set_option linter.all false
set_option maxRecDepth 100000
set_option autoImplicit false
set_option maxHeartbeats 4000000
namespace RV
open PySem PySem.Spec PyProof.Rows L2
/-- text[a:e] -/
def sl (t : Str) (a e : Int) : Str := ⟨(cutL t.cps.toList (some a) (some e)).toArray⟩
theorem slice_str {t : Str} {a e : Int} {h : AH} (hz : t.length ≤ SZ) : sliceP (.str t) (some a) (some e) h = .ok (.str (sl t a e)) h := by
  simp only [sliceP, if_pos hz]
  rfl
theorem cut_eq {L : List Nat} {a e : Int} (h0 : 0 ≤ a) (h1 : a ≤ L.length) (h2 : a ≤ e) : cutL L (some a) (some e) = (L.drop a.toNat).take (e - a).toNat := by
  have s1 : HT.sIx L.length 0 (some a) = a.toNat := by
    have := HT.sIx_nat L.length 0 a.toNat
    rw [show ((a.toNat : Nat) : Int) = a by omega] at this
    rw [this]
    omega
  have s2 : HT.sIx L.length L.length (some e) = min e.toNat L.length := by
    have := HT.sIx_nat L.length L.length e.toNat
    rw [show ((e.toNat : Nat) : Int) = e by omega] at this
    exact this
  unfold cutL
  rw [s1, s2]
  by_cases h : e.toNat ≤ L.length
  · congr 1
    omega
  · rw [List.take_of_length_le (by rw [List.length_drop]; omega), List.take_of_length_le (by rw [List.length_drop]; omega)]
/-- the signs of S from a on -/
def wd (L S : List Nat) (a : Int) : List Nat := (L.drop a.toNat).takeWhile fun c => decide (c ∈ S)
theorem rn_wd (L S : List Nat) (a : Int) : rn L S a = a + ((wd L S a).length : Int) := rfl
theorem take_wd {α : Type} (p : α → Bool) : ∀ l : List α, l.take (l.takeWhile p).length = l.takeWhile p
  | [] => rfl
  | a :: l => by
    rw [List.takeWhile_cons]
    split
    · rw [List.length_cons, List.take_succ_cons, take_wd p l]
    · rfl
theorem cut_rn {L S : List Nat} {a : Int} (h0 : 0 ≤ a) (h1 : a ≤ L.length) : cutL L (some a) (some (rn L S a)) = wd L S a := by
  rw [cut_eq h0 h1 (rn_le h0 h1).1, rn_wd, show (a + ((wd L S a).length : Int) - a).toNat = (wd L S a).length by omega]
  exact take_wd _ _
theorem wd_in {L S : List Nat} {a : Int} : ∀ c ∈ wd L S a, c ∈ S := fun c hc => by
  have := List.all_takeWhile (p := fun c => decide (c ∈ S)) (l := L.drop a.toNat)
  have := List.all_eq_true.mp this c hc
  simpa using this
theorem wd_cons {L S : List Nat} {a : Int} {c : Nat} (hc : L[a.toNat]? = some c) (hs : c ∈ S) : ∃ r, wd L S a = c :: r := by
  obtain ⟨hlt, e⟩ := List.getElem?_eq_some_iff.mp hc
  unfold wd
  rw [List.drop_eq_getElem_cons hlt, e, List.takeWhile_cons, if_pos (by simpa using hs)]
  exact ⟨_, rfl⟩
theorem fold_ge : ∀ (cs : List Nat) (i : Nat), i * 10 ^ cs.length ≤ cs.foldl (fun acc c => acc * 10 + (c - 48)) i
  | [], i => by simp
  | c :: cs, i => by
    rw [List.foldl_cons, List.length_cons, Nat.pow_succ]
    refine Nat.le_trans ?_ (fold_ge cs _)
    rw [Nat.mul_comm (10 ^ cs.length), ← Nat.mul_assoc]
    exact Nat.mul_le_mul_right _ (Nat.le_add_right _ _)
theorem val_big {c : Nat} {r : List Nat} (hc : 49 ≤ c) (hr : 7 ≤ r.length) : 1000000 < NumText.digitsVal (c :: r) := by
  unfold NumText.digitsVal
  rw [List.foldl_cons]
  refine Nat.lt_of_lt_of_le ?_ (fold_ge r _)
  have : 10 ^ 7 ≤ 10 ^ r.length := Nat.pow_le_pow_right (by decide) hr
  have h1 : 1 ≤ 0 * 10 + (c - 48) := by omega
  have := Nat.mul_le_mul h1 this
  omega
end RV
namespace RV.K03
open PySem PySem.Spec PyProof.Rows L2
abbrev LE : List Nat := ("abcdefghijklmnopqrstuvwxyz" : Str).cps.toList
abbrev DI : List Nat := ("0123456789" : Str).cps.toList
abbrev SH : List Nat := ("(){}[],;:=<+-*/^" : Str).cps.toList
abbrev SP : List Nat := (" \n" : Str).cps.toList
variable {k : Nat} {h : AH} {t s : Str} {a n : Int} {c : Nat}
def tk (w : Str) (v : D) (a : Int) : D := .tup [.str w, v, .int a]
/-- what a digits' run is worth -/
def val (w : List Nat) : Int := ((NumText.digitsVal w : Nat) : Int)
theorem di_all {w : List Nat} (hw : ∀ c ∈ w, c ∈ DI) : NumText.AllDigits w := fun c hc => by
  have := hw c hc
  have e : DI = [48, 49, 50, 51, 52, 53, 54, 55, 56, 57] := by decide +kernel
  rw [e] at this
  simp at this
  omega
theorem int_sl {w : List Nat} (hw : ∀ c ∈ w, c ∈ DI) (h1 : w ≠ []) (h2 : w.length ≤ 600) (e : (sl t a n).cps.toList = w) : blt .int [.str (sl t a n)] h = .ok (.int (val w)) h := by
  have hl : (sl t a n).length = w.length := by rw [← e]; exact Array.length_toList.symm
  have := PySem.intText_digits (x := sl t a n) (by rw [e]; exact di_all hw) (by rw [e]; exact h1) (by omega)
  rw [e] at this
  simp only [blt, this, if_pos (show (sl t a n).length ≤ 640 by omega)]
  rfl
theorem eq_zero {c : Nat} : deq (.str ⟨#[c]⟩) (.str "0") h = some (decide (c = 48)) := by
  have : ((⟨#[c]⟩ : Str) = "0") ↔ c = 48 := by
    have e : ("0" : Str) = ⟨#[48]⟩ := by decide +kernel
    rw [e]
    constructor
    · intro z
      have := congrArg (fun s : Str => s.cps.toList) z
      simpa using this
    · rintro rfl
      rfl
  simp only [deq, this]
def isL (t : Str) (a : Int) : Bool := decide (sl t a (a + 2) = "==") || decide (sl t a (a + 2) = "<=")
/-- one token at a, its sign c: the token and its end -/
def step (t : Str) (a : Int) (c : Nat) : Option (D × Int) :=
  if c ∈ LE then (if rn t.cps.toList LE a - a > 12 then none else some (tk "word" (.str (sl t a (rn t.cps.toList LE a))) a, rn t.cps.toList LE a))
  else if c ∈ DI then (if (c = 48 ∧ rn t.cps.toList DI a > a + 1) ∨ val (wd t.cps.toList DI a) > 1000000 then none else some (tk "int" (.int (val (wd t.cps.toList DI a))) a, rn t.cps.toList DI a))
  else if isL t a = true then some (tk "sign" (.str (sl t a (a + 2))) a, a + 2)
  else if c ∈ SH then some (tk "sign" (.str ⟨#[c]⟩) a, a + 1) else none
end RV.K03
set_option Elab.async false
set_option linter.all false
set_option maxRecDepth 100000
set_option autoImplicit false
set_option maxHeartbeats 4000000
namespace RV.K03
open PySem PySem.Spec PyProof.Rows L2
variable {k : Nat} {h : AH} {t s : Str} {a n : Int} {c : Nat}
theorem ss_ex1 {call : Call} {c : CS} {cs : CSs} {env : En} {h h1 : AH} {j : Nat} {v : D} (e : evS call c env h = .exc j v h1) : evSs call (.cons c cs) env h = .exc j v h1 := by
  rw [evSs, e]
  rfl
theorem entX {P : List Fn} {k j np nn i : Nat} {body : CSs} {ds : List D} {h h1 : AH} {d : D} (env : En) (hP : P[j]? = some ⟨np, nn, body⟩) (hl : ds.length = np) (he : ds.map some ++ List.replicate (nn - np) none = env) (q : evSs (evC P k) body env h = .exc i d h1) : evC P (k + 1) j ds h = .exc i d h1 := by
  rw [evC_at hP hl]
  show (evSs (evC P k) body (ds.map some ++ List.replicate (nn - np) none) h).bind (fin h) = _
  rw [he, q]
  rfl
/-- plain signs -/
def Asc (t : Str) : Prop := ∀ c ∈ t.cps.toList, c < 128
theorem asc_sl (ha : Asc t) {a e : Int} : ∀ c ∈ (sl t a e).cps.toList, c < 128 := fun c hc => by
  have : c ∈ cutL t.cps.toList (some a) (some e) := by simpa [sl] using hc
  unfold cutL at this
  exact ha c (List.mem_of_mem_drop (List.mem_of_mem_take this))
theorem ok_asc {x : Str} (h : ∀ c ∈ x.cps.toList, c < 128) : PyData.strOk x = true := by
  unfold PyData.strOk
  rw [Array.all_eq_true_iff_forall_mem]
  intro c hc
  have := h c (by simpa using hc)
  simp
  omega
theorem in_two {x : Str} (hx : ∀ c ∈ x.cps.toList, c < 128) : inP (.str x) (.tup [.str "==", .str "<="]) h = some (decide (x = "==") || decide (x = "<=")) := by
  have e1 : toP DEEP h (.str x) = some (.str x) := by simp [toP, DEEP, ok_asc hx]
  have e2 : toP DEEP h (.tup [.str "==", .str "<="]) = some (.tuple [.str "==", .str "<="]) := by
    have o1 : PyData.strOk "==" = true := by decide +kernel
    have o2 : PyData.strOk "<=" = true := by decide +kernel
    simp [toP, DEEP, mapO, o1, o2]
  show (match toP DEEP h (.str x), toP DEEP h (.tup [.str "==", .str "<="]) with
    | some p, some (.list ps) => some (ps.any fun z => PyData.eqv z p)
    | some p, some (.tuple ps) => some (ps.any fun z => PyData.eqv z p)
    | _, _ => none) = _
  rw [e1, e2]
  simp only [List.any_cons, List.any_nil, PyData.eqv, Bool.or_false]
  congr 1
  have f : ∀ y : Str, (y == x) = decide (x = y) := fun y => by
    rw [Bool.eq_iff_iff]
    simp only [beq_iff_eq, decide_eq_true_eq]
    exact ⟨fun z => z.symm, fun z => z.symm⟩
  rw [f, f]
section
variable (hl : (t.length : Int) = n) (hz : t.length ≤ 200) (ha : Asc t) (h0 : 0 ≤ a) (hc : t.cps.toList[a.toNat]? = some c)
include hl hz ha h0 hc
theorem v_token : (∀ d e, step t a c = some (d, e) → evC prg (k + 2) 1 [.str t, .int a] h = .ok (.tup [d, .int e]) h) ∧ (step t a c = none → evC prg (k + 2) 1 [.str t, .int a] h = .exc 0 (.int a) h) := by
  have hsz : SZ = 16777216 := rfl
  have hz' : t.length ≤ SZ := by omega
  have hL : t.cps.toList.length = t.length := Array.length_toList
  have hlt : a.toNat < t.cps.toList.length := (List.getElem?_eq_some_iff.mp hc).1
  have sb := sub_str (h := h) hz' h0 hc
  have g1 : ∀ z, inP (.str ⟨#[c]⟩) c_LETTERS z = some (decide (c ∈ LE)) := fun z => rfl
  have g2 : ∀ z, inP (.str ⟨#[c]⟩) c_DIGITS z = some (decide (c ∈ DI)) := fun z => rfl
  have g3 : ∀ z, inP (.str ⟨#[c]⟩) c_SHORT z = some (decide (c ∈ SH)) := fun z => rfl
  by_cases cL : c ∈ LE
  · have d1 : decide (c ∈ LE) = true := decide_eq_true cL
    obtain ⟨r, er, hr⟩ := v_run (k := k) (h := h) (s := ("abcdefghijklmnopqrstuvwxyz" : Str)) hl (by omega) h0 (by omega)
    have er' : evC prg (k + 1) 0 [.str t, .int a, c_LETTERS] h = .ok (.int r) h := er
    unfold step
    rw [if_pos cL, ← hr]
    clear hr er
    by_cases b : 12 < r - a
    · rw [if_pos b]
      refine ⟨fun d e z => (by cases z), fun _ => ?_⟩
      have d2 : decide ((12 : Int) < r - a) = true := decide_eq_true b
      refine entX (k := k + 1) [some (.str t), some (.int a), none] (show prg[1]? = some f_token_at from rfl) rfl rfl ?_
      generalize evC prg (k + 1) = cl at *
      simp only [evSs, evS, evE, evEs, evB, evG, var, R.bind_ok, List.getElem?_cons_zero, List.getElem?_cons_succ, List.set_cons_zero, List.set_cons_succ, sb, cmpP, g1, d1, ofO, tru_bl, if_true, er', subP', c_MAX_NAME, d2]
      rfl
    · rw [if_neg b]
      refine ⟨fun d e z => ?_, fun z => by cases z⟩
      cases z
      have d2 : decide ((12 : Int) < r - a) = false := decide_eq_false b
      refine ent (k := k + 1) [some (.str t), some (.int a), none] (show prg[1]? = some f_token_at from rfl) rfl rfl ?_
      generalize evC prg (k + 1) = cl at *
      simp only [evSs, evS, evE, evEs, evO, evB, evG, var, R.bind_ok, List.getElem?_cons_zero, List.getElem?_cons_succ, List.set_cons_zero, List.set_cons_succ, sb, cmpP, g1, d1, ofO, tru_bl, if_true, er', subP', c_MAX_NAME, d2, Bool.false_eq_true, if_false, slice_str hz', List.length_cons, List.length_nil, sz2, sz3, tk]
  · have d1 : decide (c ∈ LE) = false := decide_eq_false cL
    unfold step
    rw [if_neg cL]
    by_cases cD : c ∈ DI
    · have d2 : decide (c ∈ DI) = true := decide_eq_true cD
      rw [if_pos cD]
      obtain ⟨r, er, hr⟩ := v_run (k := k) (h := h) (s := ("0123456789" : Str)) hl (by omega) h0 (by omega)
      have er' : evC prg (k + 1) 0 [.str t, .int a, c_DIGITS] h = .ok (.int r) h := er
      have hwl := rn_wd t.cps.toList DI a
      obtain ⟨w', hw'⟩ := wd_cons hc cD
      have hle := rn_le (S := DI) h0 (show a ≤ (t.cps.toList.length : Int) by omega)
      have hcut : (sl t a r).cps.toList = wd t.cps.toList DI a := by
        rw [hr]
        show (cutL t.cps.toList (some a) (some (rn t.cps.toList DI a))).toArray.toList = _
        rw [cut_rn h0 (by omega)]
      have hint : blt .int [.str (sl t a r)] h = .ok (.int (val (wd t.cps.toList DI a))) h := int_sl (fun c hc => wd_in c hc) (by rw [hw']; simp) (by omega) hcut
      have hc48 : 48 ≤ c ∧ c ≤ 57 := di_all (w := [c]) (by simpa using cD) c (by simp)
      rw [← hr] at hle hwl ⊢
      clear hr er
      generalize hv : val (wd t.cps.toList DI a) = v at *
      have big : 7 < r - a → c ≠ 48 → 1000000 < v := fun b1 b2 => by
        have : 1000000 < NumText.digitsVal (c :: w') := val_big (by omega) (by rw [hw'] at hwl; rw [List.length_cons] at hwl; omega)
        rw [← hv, hw']
        unfold val
        omega
      have key : ((c = 48 ∧ r > a + 1) ∨ v > 1000000) ↔ ((c = 48 ∧ a + 1 < r) ∨ (7 < r - a ∨ 1000000 < v)) := by
        constructor
        · rintro (x | x)
          · exact .inl x
          · exact .inr (.inr x)
        · rintro (x | x | x)
          · exact .inl x
          · by_cases e : c = 48
            · exact .inl ⟨e, by omega⟩
            · exact .inr (big x e)
          · exact .inr x
      by_cases b : (c = 48 ∧ r > a + 1) ∨ v > 1000000
      · rw [if_pos b]
        refine ⟨fun d e z => (by cases z), fun _ => ?_⟩
        have b' := key.mp b
        refine entX (k := k + 1) [some (.str t), some (.int a), none] (show prg[1]? = some f_token_at from rfl) rfl rfl ?_
        generalize evC prg (k + 1) = cl at *
        by_cases x1 : c = 48
        · have y1 : decide (c = 48) = true := decide_eq_true x1
          by_cases x2 : a + 1 < r
          · have y2 : decide (a + 1 < r) = true := decide_eq_true x2
            simp only [evSs, evS, evE, evEs, evO, evB, evG, var, R.bind_ok, List.getElem?_cons_zero, List.getElem?_cons_succ, List.set_cons_zero, List.set_cons_succ, sb, cmpP, g1, g2, d1, d2, eq_zero, y1, y2, addP, ofO, tru_bl, Bool.false_eq_true, if_false, if_true, er']
            rfl
          · have y2 : decide (a + 1 < r) = false := decide_eq_false x2
            by_cases x3 : 7 < r - a
            · exact absurd x3 (by omega)
            · have y3 : decide ((7 : Int) < r - a) = false := decide_eq_false x3
              have y4 : decide ((1000000 : Int) < v) = true := decide_eq_true (by omega)
              simp only [evSs, evS, evE, evEs, evO, evB, evG, var, R.bind_ok, List.getElem?_cons_zero, List.getElem?_cons_succ, List.set_cons_zero, List.set_cons_succ, sb, cmpP, g1, g2, d1, d2, eq_zero, y1, y2, y3, y4, addP, subP', ofO, tru_bl, Bool.false_eq_true, if_false, if_true, er', slice_str hz', hint, c_MAX_NUM]
              rfl
        · have y1 : decide (c = 48) = false := decide_eq_false x1
          by_cases x3 : 7 < r - a
          · have y3 : decide ((7 : Int) < r - a) = true := decide_eq_true x3
            simp only [evSs, evS, evE, evEs, evO, evB, evG, var, R.bind_ok, List.getElem?_cons_zero, List.getElem?_cons_succ, List.set_cons_zero, List.set_cons_succ, sb, cmpP, g1, g2, d1, d2, eq_zero, y1, y3, addP, subP', ofO, tru_bl, Bool.false_eq_true, if_false, if_true, er']
            rfl
          · have y3 : decide ((7 : Int) < r - a) = false := decide_eq_false x3
            have y4 : decide ((1000000 : Int) < v) = true := decide_eq_true (by omega)
            simp only [evSs, evS, evE, evEs, evO, evB, evG, var, R.bind_ok, List.getElem?_cons_zero, List.getElem?_cons_succ, List.set_cons_zero, List.set_cons_succ, sb, cmpP, g1, g2, d1, d2, eq_zero, y1, y3, y4, addP, subP', ofO, tru_bl, Bool.false_eq_true, if_false, if_true, er', slice_str hz', hint, c_MAX_NUM]
            rfl
      · rw [if_neg b]
        refine ⟨fun d e z => ?_, fun z => by cases z⟩
        cases z
        have b' : ¬ ((c = 48 ∧ a + 1 < r) ∨ (7 < r - a ∨ 1000000 < v)) := fun z => b (key.mpr z)
        refine ent (k := k + 1) [some (.str t), some (.int a), none] (show prg[1]? = some f_token_at from rfl) rfl rfl ?_
        generalize evC prg (k + 1) = cl at *
        have y3 : decide ((7 : Int) < r - a) = false := decide_eq_false (by omega)
        have y4 : decide ((1000000 : Int) < v) = false := decide_eq_false (by omega)
        by_cases x1 : c = 48
        · have y1 : decide (c = 48) = true := decide_eq_true x1
          have y2 : decide (a + 1 < r) = false := decide_eq_false (by omega)
          simp only [evSs, evS, evE, evEs, evO, evB, evG, var, R.bind_ok, List.getElem?_cons_zero, List.getElem?_cons_succ, List.set_cons_zero, List.set_cons_succ, sb, cmpP, g1, g2, d1, d2, eq_zero, y1, y2, y3, y4, addP, subP', ofO, tru_bl, Bool.false_eq_true, if_false, if_true, er', slice_str hz', hint, c_MAX_NUM, List.length_cons, List.length_nil, sz2, sz3, tk]
        · have y1 : decide (c = 48) = false := decide_eq_false x1
          simp only [evSs, evS, evE, evEs, evO, evB, evG, var, R.bind_ok, List.getElem?_cons_zero, List.getElem?_cons_succ, List.set_cons_zero, List.set_cons_succ, sb, cmpP, g1, g2, d1, d2, eq_zero, y1, y3, y4, addP, subP', ofO, tru_bl, Bool.false_eq_true, if_false, if_true, er', slice_str hz', hint, c_MAX_NUM, List.length_cons, List.length_nil, sz2, sz3, tk]
    · have d2 : decide (c ∈ DI) = false := decide_eq_false cD
      rw [if_neg cD]
      have g4 : inP (.str (sl t a (a + 2))) c_LONG h = some (isL t a) := in_two (asc_sl ha)
      cases il : isL t a with
      | true =>
        rw [il] at g4
        rw [if_pos rfl]
        refine ⟨fun d e z => ?_, fun z => by cases z⟩
        cases z
        refine ent (k := k + 1) [some (.str t), some (.int a), none] (show prg[1]? = some f_token_at from rfl) rfl rfl ?_
        generalize evC prg (k + 1) = cl at *
        simp only [evSs, evS, evE, evEs, evO, evB, evG, var, R.bind_ok, List.getElem?_cons_zero, List.getElem?_cons_succ, sb, cmpP, g1, g2, g4, d1, d2, addP, ofO, tru_bl, Bool.false_eq_true, if_false, if_true, slice_str hz', List.length_cons, List.length_nil, sz2, sz3, tk]
      | false =>
        rw [il] at g4
        rw [if_neg (by decide)]
        by_cases cS : c ∈ SH
        · rw [if_pos cS]
          have d3 : decide (c ∈ SH) = true := decide_eq_true cS
          refine ⟨fun d e z => ?_, fun z => by cases z⟩
          cases z
          refine ent (k := k + 1) [some (.str t), some (.int a), none] (show prg[1]? = some f_token_at from rfl) rfl rfl ?_
          generalize evC prg (k + 1) = cl at *
          simp only [evSs, evS, evE, evEs, evO, evB, evG, var, R.bind_ok, List.getElem?_cons_zero, List.getElem?_cons_succ, sb, cmpP, g1, g2, g3, g4, d1, d2, d3, addP, ofO, tru_bl, Bool.not_true, Bool.false_eq_true, if_false, if_true, slice_str hz', List.length_cons, List.length_nil, sz2, sz3, tk]
        · rw [if_neg cS]
          have d3 : decide (c ∈ SH) = false := decide_eq_false cS
          refine ⟨fun d e z => (by cases z), fun _ => ?_⟩
          refine entX (k := k + 1) [some (.str t), some (.int a), none] (show prg[1]? = some f_token_at from rfl) rfl rfl ?_
          generalize evC prg (k + 1) = cl at *
          simp only [evSs, evS, evE, evEs, evO, evB, evG, var, R.bind_ok, List.getElem?_cons_zero, List.getElem?_cons_succ, sb, cmpP, g1, g2, g3, g4, d1, d2, d3, addP, ofO, tru_bl, Bool.not_false, Bool.false_eq_true, if_false, if_true, slice_str hz']
          rfl
end
end RV.K03
set_option Elab.async false
set_option linter.all false
set_option maxRecDepth 100000
set_option autoImplicit false
set_option maxHeartbeats 4000000
namespace RV.K03
open PySem PySem.Spec PyProof.Rows L2
variable {k : Nat} {h : AH} {t s : Str} {a n : Int} {c : Nat}
theorem step_adv (hl : (t.length : Int) = n) (h0 : 0 ≤ a) (hc : t.cps.toList[a.toNat]? = some c) {d : D} {e : Int} (z : step t a c = some (d, e)) : a < e ∧ e ≤ n := by
  have hL : t.cps.toList.length = t.length := Array.length_toList
  have hlt : a.toNat < t.cps.toList.length := (List.getElem?_eq_some_iff.mp hc).1
  have go : ∀ S : List Nat, c ∈ S → a < rn t.cps.toList S a ∧ rn t.cps.toList S a ≤ n := fun S hs => by
    rw [rn_in h0 hc hs]
    have := rn_le (S := S) (L := t.cps.toList) (a := a + 1) (by omega) (by omega)
    omega
  unfold step at z
  split at z
  · rename_i hs
    split at z
    · cases z
    · cases z
      exact go _ hs
  · split at z
    · rename_i hs
      split at z
      · cases z
      · cases z
        exact go _ hs
    · split at z
      · rename_i il
        cases z
        refine ⟨by omega, ?_⟩
        have two : (sl t a (a + 2)).cps.toList.length = 2 := by
          unfold isL at il
          rcases Bool.or_eq_true_iff.mp il with q | q
          · rw [of_decide_eq_true q]
            decide +kernel
          · rw [of_decide_eq_true q]
            decide +kernel
        have e : (sl t a (a + 2)).cps.toList = cutL t.cps.toList (some a) (some (a + 2)) := by simp [sl]
        rw [e, cut_eq h0 (by omega) (by omega), List.length_take, List.length_drop] at two
        omega
      · split at z
        · cases z
          omega
        · cases z
/-- what both ways come to -/
def scan (t : Str) : Nat → Int → List D → Except Int (List D)
  | 0, _, acc => .ok acc
  | m + 1, a, acc => match t.cps.toList[(rn t.cps.toList SP a).toNat]? with
    | none => .ok acc
    | some c => match step t (rn t.cps.toList SP a) c with
      | none => .error (rn t.cps.toList SP a)
      | some (d, e) => scan t m e (acc ++ [d])
def Und (d : D) : Prop := ∀ m, D.under m d = true
theorem unders_of {l : List D} (h : ∀ d ∈ l, Und d) (m : Nat) : D.unders m l = true := by
  induction l with
  | nil => simp [D.unders]
  | cons d r ih =>
    rw [D.unders, h d List.mem_cons_self m, ih fun x hx => h x (List.mem_cons_of_mem _ hx)]
    rfl
theorem tk_und {w : Str} {v : D} (hv : Und v) : Und (tk w v a) := fun m => by simp [tk, D.under, D.unders, hv m]
theorem step_und {d : D} {e : Int} (z : step t a c = some (d, e)) : Und d := by
  have s1 : ∀ x : Str, Und (.str x) := fun x m => by simp [D.under]
  have s2 : ∀ x : Int, Und (.int x) := fun x m => by simp [D.under]
  unfold step at z
  split at z
  · split at z
    · cases z
    · cases z
      exact tk_und (s1 _)
  · split at z
    · split at z
      · cases z
      · cases z
        exact tk_und (s2 _)
    · split at z
      · cases z
        exact tk_und (s1 _)
      · split at z
        · cases z
          exact tk_und (s1 _)
        · cases z
theorem scan_und : ∀ (m : Nat) (a : Int) (acc fs : List D), (∀ d ∈ acc, Und d) → scan t m a acc = .ok fs → ∀ d ∈ fs, Und d
  | 0, a, acc, fs, h, e => by
    rw [scan] at e
    cases e
    exact h
  | m + 1, a, acc, fs, h, e => by
    rw [scan] at e
    split at e
    · cases e
      exact h
    · split at e
      · cases e
      · rename_i d e' z
        refine scan_und m e' _ fs (fun x hx => ?_) e
        rcases List.mem_append.mp hx with hx | hx
        · exact h x hx
        · rw [List.mem_singleton.mp hx]
          exact step_und z
theorem set_new {h : AH} {c c' : Cell} : (h ++ [c]).set h.length c' = h ++ [c'] := by simp
def tsTok : CE := .cmp .Lt (.var 2) (.blt .len (.cons (.var 0) .nil))
def bdTok : CSs := .cons (.asg (.tup (.cons (.name 3) (.cons (.name 2) .nil))) (.call 1 (.cons (.var 0) (.cons (.var 2) .nil))))
    (.cons (.expr (.meth .append (.var 1) (.cons (.var 3) .nil)))
    (.cons (.asg (.name 2) (.call 0 (.cons (.var 0) (.cons (.var 2) (.cons (.lit (.str " \n")) .nil)))))
    .nil))
theorem tok_loop (hl : (t.length : Int) = n) (hz : t.length ≤ 200) (ha : Asc t) : ∀ (m : Nat) (fu : Nat) (a b : Int) (acc : List D) (x : Option D), 0 ≤ a → a ≤ n → (n - a).toNat < m → m < fu → b = rn t.cps.toList SP a → acc.length + m ≤ 1000 →
    (∀ fs, scan t m a acc = .ok fs → ∃ y z, evWhile (evB (evC prg (k + 2)) tsTok) (evSs (evC prg (k + 2)) bdTok) fu [some (.str t), some (.ref h.length), some (.int b), x] (h ++ [.lst acc]) = .ok (.nx [some (.str t), some (.ref h.length), y, z]) (h ++ [.lst fs])) ∧
    (∀ i, scan t m a acc = .error i → ∃ g, evWhile (evB (evC prg (k + 2)) tsTok) (evSs (evC prg (k + 2)) bdTok) fu [some (.str t), some (.ref h.length), some (.int b), x] (h ++ [.lst acc]) = .exc 0 (.int i) g ∧ g.take h.length = h)
  | 0, fu, a, b, acc, x, _, _, hm, _, _, _ => by omega
  | m + 1, 0, a, b, acc, x, _, _, _, hf, _, _ => by omega
  | m + 1, fu + 1, a, b, acc, x, h0, h1, hm, hf, hb, hacc => by
    have hL : t.cps.toList.length = t.length := Array.length_toList
    have hz' : t.length ≤ SZ := by have : SZ = 16777216 := rfl; omega
    have hle := rn_le (S := SP) (L := t.cps.toList) h0 (by omega)
    rw [← hb] at hle
    rw [scan, ← hb, evWhile]
    by_cases hlt : b < n
    · have hlt' : b.toNat < t.cps.toList.length := by omega
      have hc := List.getElem?_eq_getElem hlt'
      generalize t.cps.toList[b.toNat] = c at hc
      have d1 : decide (b < n) = true := decide_eq_true hlt
      rw [hc]
      have ht : evB (evC prg (k + 2)) tsTok [some (.str t), some (.ref h.length), some (.int b), x] (h ++ [.lst acc]) = .ok true (h ++ [.lst acc]) := by
        simp only [tsTok, evB, evE, evEs, var, R.bind_ok, List.getElem?_cons_zero, List.getElem?_cons_succ, len_str hl hz', cmpP, d1, ofO, tru_bl]
      obtain ⟨v1, v2⟩ := v_token (k := k) (h := h ++ [.lst acc]) hl hz ha (by omega) hc
      dsimp only
      cases hst : step t b c with
      | none =>
        refine ⟨fun fs z => (by cases z), fun i z => ?_⟩
        cases z
        refine ⟨h ++ [.lst acc], ?_, by simp⟩
        have e := v2 hst
        rw [ht, R.bind_ok, if_pos rfl]
        have hbd : evSs (evC prg (k + 2)) bdTok [some (.str t), some (.ref h.length), some (.int b), x] (h ++ [.lst acc]) = .exc 0 (.int b) (h ++ [.lst acc]) := by
          generalize evC prg (k + 2) = cl at *
          refine ss_ex1 ?_
          simp only [evS, evE, evEs, var, R.bind_ok, List.getElem?_cons_zero, List.getElem?_cons_succ, e]
          rfl
        rw [hbd]
        rfl
      | some p =>
        obtain ⟨d, e⟩ := p
        have ev := v1 d e hst
        obtain ⟨q1, q2⟩ := step_adv hl (by omega) hc hst
        obtain ⟨r, er, hr⟩ := v_run (k := k + 1) (h := h ++ [.lst (acc ++ [d])]) (s := (" \n" : Str)) hl (by omega) (show 0 ≤ e by omega) q2
        have ih := tok_loop hl hz ha m fu e r (acc ++ [d]) (some d) (by omega) q2 (by omega) (by omega) hr (by simp; omega)
        dsimp only
        have hap : methP .append (.ref h.length) [d] (h ++ [.lst acc]) = .ok .non (h ++ [.lst (acc ++ [d])]) := by
          have : acc.length < SZ := by have : SZ = 16777216 := rfl; omega
          simp only [methP, get_new, if_pos this, set_new]
        have hmo : methOk .append (.ref h.length) (h ++ [.lst acc]) = true := by
          simp only [methOk, get_new]
        have hbd : evSs (evC prg (k + 2)) bdTok [some (.str t), some (.ref h.length), some (.int b), x] (h ++ [.lst acc]) = .ok (.nx [some (.str t), some (.ref h.length), some (.int r), some d]) (h ++ [.lst (acc ++ [d])]) := by
          generalize evC prg (k + 2) = cl at *
          simp only [bdTok, evSs, evS, evE, evEs, evG, evGs, var, R.bind_ok, List.getElem?_cons_zero, List.getElem?_cons_succ, List.set_cons_zero, List.set_cons_succ, ev, List.length_cons, List.length_nil, Tgs.len, if_true, hmo, hap, er]
        rw [ht, R.bind_ok, if_pos rfl, hbd, R.bind_ok]
        exact ih
    · have d1 : decide (b < n) = false := decide_eq_false hlt
      have hnone : t.cps.toList[b.toNat]? = none := List.getElem?_eq_none (by omega)
      rw [hnone]
      refine ⟨fun fs z => ?_, fun i z => by cases z⟩
      cases z
      have ht : evB (evC prg (k + 2)) tsTok [some (.str t), some (.ref h.length), some (.int b), x] (h ++ [.lst acc]) = .ok false (h ++ [.lst acc]) := by
        simp only [tsTok, evB, evE, evEs, var, R.bind_ok, List.getElem?_cons_zero, List.getElem?_cons_succ, len_str hl hz', cmpP, d1, ofO, tru_bl]
      refine ⟨some (.int b), x, ?_⟩
      rw [ht, R.bind_ok, if_neg (by decide)]
theorem v_tokens (hl : (t.length : Int) = n) (hz : t.length ≤ 200) (ha : Asc t) : (∀ fs, scan t 201 0 [] = .ok fs → evC prg (k + 3) 2 [.str t] h = .ok (.tup fs) h) ∧ (∀ i, scan t 201 0 [] = .error i → ∃ g, evC prg (k + 3) 2 [.str t] h = .exc 0 (.int i) g ∧ g.take h.length = h) := by
  have hz' : t.length ≤ SZ := by have : SZ = 16777216 := rfl; omega
  obtain ⟨r, er, hr⟩ := v_run (k := k + 1) (h := h ++ [.lst []]) (s := (" \n" : Str)) hl (by omega) (show (0 : Int) ≤ 0 by decide) (by omega)
  obtain ⟨l1, l2⟩ := tok_loop (k := k) (h := h) hl hz ha 201 FUEL 0 r [] none (by decide) (by omega) (by omega) (Nat.lt_of_lt_of_le (show 201 < 2 ^ 10 by decide) (Nat.pow_le_pow_right (by decide) (by decide))) hr (by simp)
  have d1 : decide ((20000 : Int) < n) = false := decide_eq_false (by omega)
  have s1 : evS (evC prg (k + 2)) (.ifs (.or (.not (.isi (.var 0) .str)) (.cmp .Gt (.blt .len (.cons (.var 0) .nil)) (.glob 6 c_MAX_TEXT))) (.cons .never
    .nil) .nil) [some (.str t), none, none, none] h = .ok (.nx [some (.str t), none, none, none]) h := by
    simp only [evS, evB, evSs, evE, evEs, var, R.bind_ok, List.getElem?_cons_zero, isTy, ofO, tru_bl, beq_self_eq_true, Bool.not_true, Bool.false_eq_true, if_false, len_str hl hz', c_MAX_TEXT, cmpP, d1]
  have s2 : evS (evC prg (k + 2)) (.asg (.tup (.cons (.name 1) (.cons (.name 2) .nil))) (.tup (.cons (.alloc (.lst .nil)) (.cons (.call 0 (.cons (.var 0) (.cons (.lit (.int (0))) (.cons (.lit (.str " \n")) .nil)))) .nil)))) [some (.str t), none, none, none] h = .ok (.nx [some (.str t), some (.ref h.length), some (.int r), none]) (h ++ [.lst []]) := by
    generalize evC prg (k + 2) = cl at *
    simp only [evS, evE, evEs, evT, evG, evGs, new, var, R.bind_ok, List.getElem?_cons_zero, List.getElem?_cons_succ, List.set_cons_zero, List.set_cons_succ, List.length_nil, List.length_cons, sz0, sz2, if_true, er, Tgs.len]
  refine ⟨fun fs z => ?_, fun i z => ?_⟩
  · obtain ⟨y, x, e⟩ := l1 fs z
    have us := scan_und 201 0 [] fs (by simp) z
    rw [evC_at (k := k + 2) (fn := f_tokens) rfl rfl]
    show (evSs (evC prg (k + 2)) f_tokens.body [some (.str t), none, none, none] h).bind (fin h) = _
    have st : evSs (evC prg (k + 2)) f_tokens.body [some (.str t), none, none, none] h = .ok (.rt (.tup fs)) (h ++ [.lst fs]) := by
      unfold f_tokens
      rw [ss_nx s1, ss_nx s2, ss_nx (by rw [evS]; exact e)]
      refine ss_rt ?_
      simp [evS, evE, evEs, var, blt, seqOf]
    rw [st, R.bind_ok]
    simp [fin, sweep, D.under, unders_of us]
  · obtain ⟨g, e, hg⟩ := l2 i z
    refine ⟨g, ?_, hg⟩
    refine entX (k := k + 2) [some (.str t), none, none, none] (show prg[2]? = some f_tokens from rfl) rfl rfl ?_
    rw [ss_nx s1, ss_nx s2]
    exact ss_ex1 (by rw [evS]; exact e)
/-- what scan tells, as a value -/
def scanD (t : Str) : D := match scan t 201 0 [] with
  | .ok fs => .tup fs
  | .error i => .int i
theorem v_read (hl : (t.length : Int) = n) (hz : t.length ≤ 200) (ha : Asc t) : evC prg (k + 4) 9 [.str t] h = .ok (scanD t) h := by
  obtain ⟨l1, l2⟩ := v_tokens (k := k) (h := h) hl hz ha
  unfold scanD
  cases e : scan t 201 0 [] with
  | ok fs =>
    have e1 := l1 fs e
    refine ent (k := k + 3) [some (.str t), none] (show prg[9]? = some f__law_read from rfl) rfl rfl ?_
    refine ss_rt ?_
    generalize evC prg (k + 3) = cl at *
    simp only [evS, evSs, evE, evEs, var, R.bind_ok, List.getElem?_cons_zero, e1, catch_]
  | error i =>
    obtain ⟨g, e1, hg⟩ := l2 i e
    rw [evC_at (k := k + 3) (fn := f__law_read) rfl rfl]
    have st : evSs (evC prg (k + 3)) f__law_read.body [some (.str t), none] h = .ok (.rt (.int i)) g := by
      unfold f__law_read
      refine ss_rt ?_
      generalize evC prg (k + 3) = cl at *
      simp only [evS, evSs, evE, evEs, var, R.bind_ok, List.getElem?_cons_zero, e1]
      rfl
    show (evSs (evC prg (k + 3)) f__law_read.body [some (.str t), none] h).bind (fin h) = _
    rw [st, R.bind_ok]
    simp [fin, sweep, D.under, hg]
end RV.K03
set_option Elab.async false
set_option linter.all false
set_option maxRecDepth 100000
set_option autoImplicit false
set_option maxHeartbeats 4000000
namespace RV.K03
open PySem PySem.Spec PyProof.Rows L2
variable {k : Nat} {h g : AH} {t s : Str} {a n : Int} {c : Nat} {acc : List D}
/-- h, the list found, then what is not looked at again -/
def HG (h g : AH) (acc : List D) : Prop := g.take (h.length + 1) = h ++ [.lst acc]
theorem HG.get (q : HG h g acc) : g[h.length]? = some (.lst acc) := by
  have : (g.take (h.length + 1))[h.length]? = some (.lst acc) := by rw [q]; simp
  rw [List.getElem?_take_of_lt (by omega)] at this
  exact this
theorem HG.set (q : HG h g acc) (acc' : List D) : HG h (g.set h.length (.lst acc')) acc' := by
  unfold HG at *
  rw [List.take_set, q]
  simp
theorem HG.app (q : HG h g acc) (c : Cell) : HG h (g ++ [c]) acc := by
  unfold HG at *
  have hl : h.length + 1 ≤ g.length := by
    have := congrArg List.length q
    simp at this
    omega
  rw [List.take_append_of_le_length hl, q]
theorem HG.base (q : HG h g acc) : g.take h.length = h := by
  have : (g.take (h.length + 1)).take h.length = h := by rw [q]; simp
  rwa [List.take_take, Nat.min_eq_left (by omega)] at this
def bdCut : CSs := (.cons (.asg (.name 3) (.call 7 (.cons (.var 0) (.cons (.var 3) (.cons (.lit (.str " \n")) .nil)))))
    (.cons (.ifs (.cmp .Eq (.var 3) (.blt .len (.cons (.var 0) .nil))) (.cons (.ret (.blt .tup (.cons (.var 2) .nil)))
    .nil) .nil)
    (.cons (.asg (.name 6) (.sub (.var 0) (.var 3)))
    (.cons (.ifs (.or (.cmp .In (.var 6) (.var 4)) (.cmp .In (.var 6) (.var 5))) (.cons (.asg (.name 7) (.call 7 (.cons (.var 0) (.cons (.var 3) (.cons (.ite (.cmp .In (.var 6) (.var 4)) (.var 4) (.var 5)) .nil)))))
    (.cons (.asg (.name 8) (.slice (.var 0) (.some (.var 3)) (.some (.var 7))))
    (.cons (.ifs (.or (.and (.cmp .In (.var 6) (.var 4)) (.cmp .Gt (.blt .len (.cons (.var 8) .nil)) (.lit (.int (12))))) (.and (.cmp .In (.var 6) (.var 5)) (.or (.and (.cmp .Gt (.blt .len (.cons (.var 8) .nil)) (.lit (.int (1)))) (.cmp .Eq (.var 6) (.lit (.str "0")))) (.cmp .Gt (.blt .int (.cons (.var 8) .nil)) (.lit (.int (1000000))))))) (.cons (.ret (.var 3))
    .nil) .nil)
    (.cons (.expr (.meth .append (.var 2) (.cons (.ite (.cmp .In (.var 6) (.var 4)) (.tup (.cons (.lit (.str "word")) (.cons (.var 8) (.cons (.var 3) .nil)))) (.tup (.cons (.lit (.str "int")) (.cons (.blt .int (.cons (.var 8) .nil)) (.cons (.var 3) .nil))))) .nil)))
    .nil)))) (.cons (.asg (.name 8) (.ite (.cmp .In (.slice (.var 0) (.some (.var 3)) (.some (.op2 .Add (.var 3) (.lit (.int (2)))))) (.alloc (.lst (.cons (.lit (.str "==")) (.cons (.lit (.str "<=")) .nil))))) (.slice (.var 0) (.some (.var 3)) (.some (.op2 .Add (.var 3) (.lit (.int (2)))))) (.var 6)))
    (.cons (.asg (.name 7) (.op2 .Add (.var 3) (.blt .len (.cons (.var 8) .nil))))
    (.cons (.ifs (.cmp .NotIn (.var 6) (.lit (.str "(){}[],;:=<+-*/^"))) (.cons (.ret (.var 3))
    .nil) .nil)
    (.cons (.expr (.meth .append (.var 2) (.cons (.tup (.cons (.lit (.str "sign")) (.cons (.var 8) (.cons (.var 3) .nil)))) .nil)))
    .nil)))))
    (.cons (.asg (.name 3) (.var 7))
    .nil)))))
theorem in_two' {x : Str} {g : AH} (hx : ∀ c ∈ x.cps.toList, c < 128) : inP (.str x) (.ref g.length) (g ++ [.lst [.str "==", .str "<="]]) = some (decide (x = "==") || decide (x = "<=")) := by
  have e1 : toP DEEP (g ++ [.lst [.str "==", .str "<="]]) (.str x) = some (.str x) := by simp [toP, DEEP, ok_asc hx]
  have e2 : toP DEEP (g ++ [.lst [.str "==", .str "<="]]) (.ref g.length) = some (.list [.str "==", .str "<="]) := by
    have o1 : PyData.strOk "==" = true := by decide +kernel
    have o2 : PyData.strOk "<=" = true := by decide +kernel
    simp [toP, DEEP, mapO, o1, o2]
  show (match toP DEEP (g ++ [.lst [.str "==", .str "<="]]) (.str x), toP DEEP (g ++ [.lst [.str "==", .str "<="]]) (.ref g.length) with
    | some p, some (.list ps) => some (ps.any fun z => PyData.eqv z p)
    | some p, some (.tuple ps) => some (ps.any fun z => PyData.eqv z p)
    | _, _ => none) = _
  rw [e1, e2]
  simp only [List.any_cons, List.any_nil, PyData.eqv, Bool.or_false]
  congr 1
  have f : ∀ y : Str, (y == x) = decide (x = y) := fun y => by
    rw [Bool.eq_iff_iff]
    simp only [beq_iff_eq, decide_eq_true_eq]
    exact ⟨fun z => z.symm, fun z => z.symm⟩
  rw [f, f]
theorem app_ok (q : HG h g acc) (hacc : acc.length ≤ 1000) (d : D) : methOk .append (.ref h.length) g = true ∧ methP .append (.ref h.length) [d] g = .ok .non (g.set h.length (.lst (acc ++ [d]))) := by
  have : acc.length < SZ := by have : SZ = 16777216 := rfl; omega
  refine ⟨by simp only [methOk, q.get], by simp only [methP, q.get, if_pos this]⟩
/-- the letters, the digits -/
abbrev sL : Str := "abcdefghijklmnopqrstuvwxyz"
abbrev sD : Str := "0123456789"
variable {x1 x6 x7 x8 : Option D} {b : Int}
section
variable (hl : (t.length : Int) = n) (hz : t.length ≤ 200) (ha : Asc t) (h0 : 0 ≤ a) (h1 : a ≤ n) (hb : b = rn t.cps.toList SP a) (q : HG h g acc) (hacc : acc.length ≤ 1000)
include hl hz ha h0 h1 hb q hacc
theorem cut_end (he : b = n) : evSs (evC prg (k + 1)) bdCut [some (.str t), x1, some (.ref h.length), some (.int a), some (.str sL), some (.str sD), x6, x7, x8] g = .ok (.rt (.tup acc)) g := by
  have hz' : t.length ≤ SZ := by have : SZ = 16777216 := rfl; omega
  obtain ⟨r, er, hr⟩ := v_lrun (k := k) (h := g) (s := (" \n" : Str)) hl (by omega) h0 h1
  have : r = n := by rw [hr, ← he, hb]
  subst this
  have d1 : decide (r = r) = true := decide_eq_true rfl
  have bt : blt .tup [.ref h.length] g = .ok (.tup acc) g := by simp only [blt, seqOf, q.get]
  generalize evC prg (k + 1) = cl at *
  simp only [bdCut, evSs, evS, evE, evEs, evB, evG, var, R.bind_ok, List.getElem?_cons_zero, List.getElem?_cons_succ, List.set_cons_zero, List.set_cons_succ, er, len_str hl hz', cmpP, deq_i, d1, decide_true, ofO, tru_bl, if_true, bt]
theorem cut_turn (hc : t.cps.toList[b.toNat]? = some c) : (step t b c = none → ∃ g', evSs (evC prg (k + 1)) bdCut [some (.str t), x1, some (.ref h.length), some (.int a), some (.str sL), some (.str sD), x6, x7, x8] g = .ok (.rt (.int b)) g' ∧ HG h g' acc) ∧
    (∀ d e, step t b c = some (d, e) → ∃ g' y6 y7 y8, evSs (evC prg (k + 1)) bdCut [some (.str t), x1, some (.ref h.length), some (.int a), some (.str sL), some (.str sD), x6, x7, x8] g = .ok (.nx [some (.str t), x1, some (.ref h.length), some (.int e), some (.str sL), some (.str sD), y6, y7, y8]) g' ∧ HG h g' (acc ++ [d])) := by
  have hsz : SZ = 16777216 := rfl
  have hz' : t.length ≤ SZ := by omega
  have hL : t.cps.toList.length = t.length := Array.length_toList
  have hlt : b.toNat < t.cps.toList.length := (List.getElem?_eq_some_iff.mp hc).1
  have hle := rn_le (S := SP) (L := t.cps.toList) h0 (by omega)
  rw [← hb] at hle
  obtain ⟨r, er, hr⟩ := v_lrun (k := k) (h := g) (s := (" \n" : Str)) hl (by omega) h0 h1
  have : r = b := by rw [hr, hb]
  subst this
  clear hr hb
  have b0 : 0 ≤ r := by omega
  have bn : r ≠ n := by omega
  have dn : decide (r = n) = false := decide_eq_false bn
  have sb := sub_str (h := g) hz' b0 hc
  have g1 : ∀ z, inP (.str ⟨#[c]⟩) (.str sL) z = some (decide (c ∈ LE)) := fun z => rfl
  have g2 : ∀ z, inP (.str ⟨#[c]⟩) (.str sD) z = some (decide (c ∈ DI)) := fun z => rfl
  have g3 : ∀ z, inP (.str ⟨#[c]⟩) (.str "(){}[],;:=<+-*/^") z = some (decide (c ∈ SH)) := fun z => rfl
  have disj : c ∈ LE → c ∉ DI := by
    intro x y
    have := di_all (w := [c]) (by simpa using y) c (by simp)
    have e : LE = [97, 98, 99, 100, 101, 102, 103, 104, 105, 106, 107, 108, 109, 110, 111, 112, 113, 114, 115, 116, 117, 118, 119, 120, 121, 122] := by decide +kernel
    rw [e] at x
    simp at x
    omega
  have alen : ∀ (S : List Nat) (o : Int), c ∈ S → o = rn t.cps.toList S r → blt .len [.str (sl t r o)] g = .ok (.int (o - r)) g := fun S o hs ho => by
    have hcut : (sl t r o).cps.toList = wd t.cps.toList S r := by
      rw [ho]
      show (cutL t.cps.toList (some r) (some (rn t.cps.toList S r))).toArray.toList = _
      rw [cut_rn b0 (by omega)]
    have hl2 : (sl t r o).length = (wd t.cps.toList S r).length := by rw [← hcut]; exact Array.length_toList.symm
    have hw := rn_wd t.cps.toList S r
    have hle2 := rn_le (S := S) (L := t.cps.toList) b0 (by omega)
    refine len_str ?_ ?_ <;> omega
  by_cases cL : c ∈ LE
  · have d1 : decide (c ∈ LE) = true := decide_eq_true cL
    have d2 : decide (c ∈ DI) = false := decide_eq_false (disj cL)
    obtain ⟨o, eo, ho⟩ := v_lrun (k := k) (h := g) (s := sL) hl (by omega) b0 (show r ≤ n by omega)
    have ln := alen LE o cL ho
    unfold step
    rw [if_pos cL, ← ho]
    clear ho
    by_cases bb : 12 < o - r
    · rw [if_pos bb]
      refine ⟨fun _ => ⟨g, ?_, q⟩, fun d e z => (by cases z)⟩
      have d3 : decide ((12 : Int) < o - r) = true := decide_eq_true bb
      generalize evC prg (k + 1) = cl at *
      simp only [bdCut, evSs, evS, evE, evEs, evO, evB, evG, var, R.bind_ok, List.getElem?_cons_zero, List.getElem?_cons_succ, List.set_cons_zero, List.set_cons_succ, er, eo, len_str hl hz', cmpP, deq_i, dn, ofO, tru_bl, Bool.false_eq_true, if_false, if_true, sb, g1, g2, d1, d2, slice_str hz', ln, d3]
    · rw [if_neg bb]
      refine ⟨fun z => (by cases z), fun d e z => ?_⟩
      cases z
      have d3 : decide ((12 : Int) < o - r) = false := decide_eq_false bb
      obtain ⟨m1, m2⟩ := app_ok q hacc (tk "word" (.str (sl t r o)) r)
      unfold tk at m2
      refine ⟨_, some (.str ⟨#[c]⟩), some (.int o), some (.str (sl t r o)), ?_, q.set _⟩
      generalize evC prg (k + 1) = cl at *
      simp only [bdCut, evSs, evS, evE, evEs, evO, evB, evG, var, R.bind_ok, List.getElem?_cons_zero, List.getElem?_cons_succ, List.set_cons_zero, List.set_cons_succ, er, eo, len_str hl hz', cmpP, deq_i, dn, ofO, tru_bl, Bool.false_eq_true, if_false, if_true, sb, g1, g2, d1, d2, slice_str hz', ln, d3, m1, m2, List.length_cons, List.length_nil, sz3, tk]
  · have d1 : decide (c ∈ LE) = false := decide_eq_false cL
    unfold step
    rw [if_neg cL]
    by_cases cD : c ∈ DI
    · have d2 : decide (c ∈ DI) = true := decide_eq_true cD
      rw [if_pos cD]
      obtain ⟨o, eo, ho⟩ := v_lrun (k := k) (h := g) (s := sD) hl (by omega) b0 (show r ≤ n by omega)
      have ln := alen DI o cD ho
      have hwl := rn_wd t.cps.toList DI r
      obtain ⟨w', hw'⟩ := wd_cons hc cD
      have hle2 := rn_le (S := DI) (L := t.cps.toList) b0 (by omega)
      have hcut : (sl t r o).cps.toList = wd t.cps.toList DI r := by
        rw [ho]
        show (cutL t.cps.toList (some r) (some (rn t.cps.toList DI r))).toArray.toList = _
        rw [cut_rn b0 (by omega)]
      have hint : blt .int [.str (sl t r o)] g = .ok (.int (val (wd t.cps.toList DI r))) g := int_sl (fun c hc => wd_in c hc) (by rw [hw']; simp) (by omega) hcut
      rw [← ho] at hle2 hwl ⊢
      clear ho
      generalize hv : val (wd t.cps.toList DI r) = v at *
      by_cases bb : (c = 48 ∧ o > r + 1) ∨ v > 1000000
      · rw [if_pos bb]
        refine ⟨fun _ => ⟨g, ?_, q⟩, fun d e z => (by cases z)⟩
        generalize evC prg (k + 1) = cl at *
        by_cases x1 : c = 48 ∧ 1 < o - r
        · have y1 : decide (c = 48) = true := decide_eq_true x1.1
          have y2 : decide ((1 : Int) < o - r) = true := decide_eq_true x1.2
          simp only [bdCut, evSs, evS, evE, evEs, evO, evB, evG, var, R.bind_ok, List.getElem?_cons_zero, List.getElem?_cons_succ, List.set_cons_zero, List.set_cons_succ, er, eo, len_str hl hz', cmpP, deq_i, dn, ofO, tru_bl, Bool.false_eq_true, if_false, if_true, sb, g1, g2, d1, d2, slice_str hz', ln, eq_zero, y1, y2]
        · have y4 : decide ((1000000 : Int) < v) = true := decide_eq_true (by omega)
          by_cases x2 : 1 < o - r
          · have y2 : decide ((1 : Int) < o - r) = true := decide_eq_true x2
            have y1 : decide (c = 48) = false := decide_eq_false fun z => x1 ⟨z, x2⟩
            simp only [bdCut, evSs, evS, evE, evEs, evO, evB, evG, var, R.bind_ok, List.getElem?_cons_zero, List.getElem?_cons_succ, List.set_cons_zero, List.set_cons_succ, er, eo, len_str hl hz', cmpP, deq_i, dn, ofO, tru_bl, Bool.false_eq_true, if_false, if_true, sb, g1, g2, d1, d2, slice_str hz', ln, eq_zero, y1, y2, hint, y4]
          · have y2 : decide ((1 : Int) < o - r) = false := decide_eq_false x2
            simp only [bdCut, evSs, evS, evE, evEs, evO, evB, evG, var, R.bind_ok, List.getElem?_cons_zero, List.getElem?_cons_succ, List.set_cons_zero, List.set_cons_succ, er, eo, len_str hl hz', cmpP, deq_i, dn, ofO, tru_bl, Bool.false_eq_true, if_false, if_true, sb, g1, g2, d1, d2, slice_str hz', ln, y2, hint, y4]
      · rw [if_neg bb]
        refine ⟨fun z => (by cases z), fun d e z => ?_⟩
        cases z
        have y4 : decide ((1000000 : Int) < v) = false := decide_eq_false (by omega)
        obtain ⟨m1, m2⟩ := app_ok q hacc (tk "int" (.int v) r)
        unfold tk at m2
        refine ⟨_, some (.str ⟨#[c]⟩), some (.int o), some (.str (sl t r o)), ?_, q.set _⟩
        generalize evC prg (k + 1) = cl at *
        by_cases x2 : 1 < o - r
        · have y2 : decide ((1 : Int) < o - r) = true := decide_eq_true x2
          have y1 : decide (c = 48) = false := decide_eq_false fun z => bb (.inl ⟨z, by omega⟩)
          simp only [bdCut, evSs, evS, evE, evEs, evO, evB, evG, var, R.bind_ok, List.getElem?_cons_zero, List.getElem?_cons_succ, List.set_cons_zero, List.set_cons_succ, er, eo, len_str hl hz', cmpP, deq_i, dn, ofO, tru_bl, Bool.false_eq_true, if_false, if_true, sb, g1, g2, d1, d2, slice_str hz', ln, eq_zero, y1, y2, hint, y4, m1, m2, List.length_cons, List.length_nil, sz3, tk]
        · have y2 : decide ((1 : Int) < o - r) = false := decide_eq_false x2
          simp only [bdCut, evSs, evS, evE, evEs, evO, evB, evG, var, R.bind_ok, List.getElem?_cons_zero, List.getElem?_cons_succ, List.set_cons_zero, List.set_cons_succ, er, eo, len_str hl hz', cmpP, deq_i, dn, ofO, tru_bl, Bool.false_eq_true, if_false, if_true, sb, g1, g2, d1, d2, slice_str hz', ln, y2, hint, y4, m1, m2, List.length_cons, List.length_nil, sz3, tk]
    · have d2 : decide (c ∈ DI) = false := decide_eq_false cD
      rw [if_neg cD]
      have g4 : inP (.str (sl t r (r + 2))) (.ref g.length) (g ++ [.lst [.str "==", .str "<="]]) = some (isL t r) := in_two' (asc_sl ha)
      have q' := q.app (.lst [.str "==", .str "<="])
      have sle : sliceP (.str t) (some r) (some (r + 2)) g = .ok (.str (sl t r (r + 2))) g := slice_str hz'
      have sle' : sliceP (.str t) (some r) (some (r + 2)) (g ++ [.lst [.str "==", .str "<="]]) = .ok (.str (sl t r (r + 2))) (g ++ [.lst [.str "==", .str "<="]]) := slice_str hz'
      generalize hg' : g ++ [.lst [.str "==", .str "<="]] = g' at *
      have al : new (.lst [.str "==", .str "<="]) g = .ok (.ref g.length) g' := by rw [← hg']; rfl
      cases il : isL t r with
      | true =>
        rw [il] at g4
        rw [if_pos rfl]
        refine ⟨fun z => (by cases z), fun d e z => ?_⟩
        cases z
        have two : ((sl t r (r + 2)).length : Int) = 2 := by
          unfold isL at il
          rcases Bool.or_eq_true_iff.mp il with y | y
          · rw [of_decide_eq_true y]
            decide +kernel
          · rw [of_decide_eq_true y]
            decide +kernel
        have ln : blt .len [.str (sl t r (r + 2))] g' = .ok (.int 2) g' := len_str two (by omega)
        have cSH : c ∈ SH := by
          have e : (sl t r (r + 2)).cps.toList = cutL t.cps.toList (some r) (some (r + 2)) := by simp [sl]
          rw [cut_eq b0 (by omega) (by omega), List.drop_eq_getElem_cons hlt] at e
          have hd : (sl t r (r + 2)).cps.toList.head? = some c := by
            rw [e, show (r + 2 - r).toNat = 2 by omega, List.take_succ_cons, List.head?_cons]
            have := List.getElem?_eq_getElem hlt
            rw [hc] at this
            exact this.symm
          unfold isL at il
          rcases Bool.or_eq_true_iff.mp il with y | y
          · rw [of_decide_eq_true y] at hd
            have : (("==" : Str).cps.toList.head? = some 61) := by decide +kernel
            rw [this] at hd
            cases hd
            decide +kernel
          · rw [of_decide_eq_true y] at hd
            have : (("<=" : Str).cps.toList.head? = some 60) := by decide +kernel
            rw [this] at hd
            cases hd
            decide +kernel
        have d3 : decide (c ∈ SH) = true := decide_eq_true cSH
        obtain ⟨m1, m2⟩ := app_ok q' hacc (tk "sign" (.str (sl t r (r + 2))) r)
        unfold tk at m2
        refine ⟨_, some (.str ⟨#[c]⟩), some (.int (r + 2)), some (.str (sl t r (r + 2))), ?_, q'.set _⟩
        generalize evC prg (k + 1) = cl at *
        simp only [bdCut, evSs, evS, evE, evEs, evT, evO, evB, evG, var, R.bind_ok, List.getElem?_cons_zero, List.getElem?_cons_succ, List.set_cons_zero, List.set_cons_succ, er, len_str hl hz', cmpP, deq_i, dn, ofO, tru_bl, Bool.false_eq_true, if_false, if_true, Bool.not_true, sb, g1, g2, g3, g4, d1, d2, d3, addP, sle, sle', al, ln, m1, m2, List.length_cons, List.length_nil, sz2, sz3, tk]
      | false =>
        rw [il] at g4
        rw [if_neg (by decide)]
        have ln : blt .len [.str ⟨#[c]⟩] g' = .ok (.int 1) g' := len_str (n := 1) rfl (by rw [hsz]; exact (by decide : (1 : Nat) ≤ 16777216))
        by_cases cS : c ∈ SH
        · rw [if_pos cS]
          have d3 : decide (c ∈ SH) = true := decide_eq_true cS
          refine ⟨fun z => (by cases z), fun d e z => ?_⟩
          cases z
          obtain ⟨m1, m2⟩ := app_ok q' hacc (tk "sign" (.str ⟨#[c]⟩) r)
          unfold tk at m2
          refine ⟨_, some (.str ⟨#[c]⟩), some (.int (r + 1)), some (.str ⟨#[c]⟩), ?_, q'.set _⟩
          generalize evC prg (k + 1) = cl at *
          simp only [bdCut, evSs, evS, evE, evEs, evT, evO, evB, evG, var, R.bind_ok, List.getElem?_cons_zero, List.getElem?_cons_succ, List.set_cons_zero, List.set_cons_succ, er, len_str hl hz', cmpP, deq_i, dn, ofO, tru_bl, Bool.false_eq_true, if_false, if_true, Bool.not_true, sb, g1, g2, g3, g4, d1, d2, d3, addP, sle, al, ln, m1, m2, List.length_cons, List.length_nil, sz2, sz3, tk]
        · rw [if_neg cS]
          have d3 : decide (c ∈ SH) = false := decide_eq_false cS
          refine ⟨fun _ => ⟨g', ?_, q'⟩, fun d e z => (by cases z)⟩
          generalize evC prg (k + 1) = cl at *
          simp only [bdCut, evSs, evS, evE, evEs, evT, evO, evB, evG, var, R.bind_ok, List.getElem?_cons_zero, List.getElem?_cons_succ, List.set_cons_zero, List.set_cons_succ, er, len_str hl hz', cmpP, deq_i, dn, ofO, tru_bl, Bool.false_eq_true, if_false, if_true, Bool.not_false, sb, g1, g2, g3, g4, d1, d2, d3, addP, sle, al, ln, List.length_cons, List.length_nil, sz2, sz3]
end
end RV.K03
set_option Elab.async false
set_option linter.all false
set_option maxRecDepth 100000
set_option autoImplicit false
set_option maxHeartbeats 4000000
namespace RV.K03
open PySem PySem.Spec PyProof.Rows L2
variable {k : Nat} {h g : AH} {t s : Str} {a n : Int} {c : Nat} {acc : List D}
theorem scan_fuel (hl : (t.length : Int) = n) : ∀ (m m' : Nat) (a : Int) (acc : List D), 0 ≤ a → a ≤ n → (n - a).toNat ≤ m → (n - a).toNat ≤ m' → scan t m a acc = scan t m' a acc := by
  have hL : t.cps.toList.length = t.length := Array.length_toList
  have end_ : ∀ (m : Nat) (acc : List D), scan t m n acc = .ok acc := fun m acc => by
    cases m with
    | zero => rw [scan]
    | succ m =>
      rw [scan, rn_end (by omega), List.getElem?_eq_none (by omega)]
  intro m
  induction m with
  | zero =>
    intro m' a acc h0 h1 h2 h3
    have : a = n := by omega
    subst this
    rw [end_, end_]
  | succ m ih =>
    intro m' a acc h0 h1 h2 h3
    cases m' with
    | zero =>
      have : a = n := by omega
      subst this
      rw [end_, end_]
    | succ m' =>
      rw [scan, scan]
      have hle := rn_le (S := SP) (L := t.cps.toList) h0 (by omega)
      generalize rn t.cps.toList SP a = b at *
      cases hc : t.cps.toList[b.toNat]? with
      | none => rfl
      | some c =>
        dsimp only
        cases hs : step t b c with
        | none => rfl
        | some p =>
          obtain ⟨d, e⟩ := p
          obtain ⟨q1, q2⟩ := step_adv hl (by omega) hc hs
          exact ih m' e _ (by omega) q2 (by omega) (by omega)
theorem cut_loop (hl : (t.length : Int) = n) (hz : t.length ≤ 200) (ha : Asc t) : ∀ (xs : List D) (a : Int) (acc : List D) (g : AH) (x1 x6 x7 x8 : Option D), 0 ≤ a → a ≤ n → HG h g acc → acc.length + xs.length ≤ 1000 →
    (∀ i, scan t xs.length a acc = .error i → ∃ g', evLoop (evG (evC prg (k + 1)) (.name 1)) (evSs (evC prg (k + 1)) bdCut) [] xs [some (.str t), x1, some (.ref h.length), some (.int a), some (.str sL), some (.str sD), x6, x7, x8] g = .ok (.rt (.int i)) g' ∧ g'.take h.length = h) ∧
    (∀ fs, scan t xs.length a acc = .ok fs → ∃ g', (evLoop (evG (evC prg (k + 1)) (.name 1)) (evSs (evC prg (k + 1)) bdCut) [] xs [some (.str t), x1, some (.ref h.length), some (.int a), some (.str sL), some (.str sD), x6, x7, x8] g = .ok (.rt (.tup fs)) g' ∨
      ∃ y1 y3 y4 y5 y6 y7 y8, evLoop (evG (evC prg (k + 1)) (.name 1)) (evSs (evC prg (k + 1)) bdCut) [] xs [some (.str t), x1, some (.ref h.length), some (.int a), some (.str sL), some (.str sD), x6, x7, x8] g = .ok (.nx [some (.str t), y1, some (.ref h.length), y3, y4, y5, y6, y7, y8]) g') ∧ HG h g' fs)
  | [], a, acc, g, x1, x6, x7, x8, h0, h1, q, hacc => by
    refine ⟨fun i z => (by cases z), fun fs z => ?_⟩
    cases z
    exact ⟨g, .inr ⟨_, _, _, _, _, _, _, by rw [evLoop]; rfl⟩, q⟩
  | x :: xs, a, acc, g, x1, x6, x7, x8, h0, h1, q, hacc => by
    have hL : t.cps.toList.length = t.length := Array.length_toList
    rw [List.length_cons] at hacc ⊢
    have hle := rn_le (S := SP) (L := t.cps.toList) h0 (by omega)
    obtain ⟨b, hb⟩ : ∃ b, b = rn t.cps.toList SP a := ⟨_, rfl⟩
    rw [scan, ← hb]
    rw [← hb] at hle
    rw [evLoop, if_pos (show depsOk [] g = true from rfl)]
    have e0 : evG (evC prg (k + 1)) (.name 1) x [some (.str t), x1, some (.ref h.length), some (.int a), some (.str sL), some (.str sD), x6, x7, x8] g = .ok [some (.str t), some x, some (.ref h.length), some (.int a), some (.str sL), some (.str sD), x6, x7, x8] g := rfl
    rw [e0, R.bind_ok]
    cases hc : t.cps.toList[b.toNat]? with
    | none =>
      have bn : b = n := by
        have := List.getElem?_eq_none_iff.mp hc
        omega
      have e1 := cut_end (k := k) (x1 := some x) (x6 := x6) (x7 := x7) (x8 := x8) hl hz ha h0 h1 hb q (by omega) bn
      refine ⟨fun i z => (by cases z), fun fs z => ?_⟩
      cases z
      rw [e1]
      exact ⟨g, .inl rfl, q⟩
    | some c =>
      obtain ⟨v1, v2⟩ := cut_turn (k := k) (x1 := some x) (x6 := x6) (x7 := x7) (x8 := x8) hl hz ha h0 h1 hb q (by omega) hc
      dsimp only
      cases hs : step t b c with
      | none =>
        obtain ⟨g', e1, q'⟩ := v1 hs
        refine ⟨fun i z => ?_, fun fs z => (by cases z)⟩
        cases z
        rw [e1]
        exact ⟨g', rfl, q'.base⟩
      | some p =>
        obtain ⟨d, e⟩ := p
        obtain ⟨g', y6, y7, y8, e1, q'⟩ := v2 d e hs
        obtain ⟨p1, p2⟩ := step_adv hl (by omega) hc hs
        rw [e1, R.bind_ok]
        exact cut_loop hl hz ha xs e (acc ++ [d]) g' (some x) y6 y7 y8 (by omega) p2 q' (by simp; omega)
theorem v_cut (hl : (t.length : Int) = n) (hz : t.length ≤ 200) (ha : Asc t) : evC prg (k + 2) 8 [.str t] h = .ok (scanD t) h := by
  have hz' : t.length ≤ SZ := by have : SZ = 16777216 := rfl; omega
  have q0 : HG h (h ++ [.lst []]) [] := by
    unfold HG
    rw [List.take_of_length_le (by rw [List.length_append, List.length_singleton]; omega)]
  have n0 : 0 ≤ n := by omega
  have fu : scan t 201 0 [] = scan t (rngL 0 n.toNat).length 0 [] := scan_fuel hl _ _ _ _ (by decide) (by omega) (by omega) (by rw [rng_len]; omega)
  obtain ⟨l1, l2⟩ := cut_loop (k := k) (h := h) hl hz ha (rngL 0 n.toNat) 0 [] (h ++ [.lst []]) none none none none (by decide) (by omega) q0 (by rw [rng_len, List.length_nil]; omega)
  have s1 : evS (evC prg (k + 1)) (.asg (.tup (.cons (.name 2) (.cons (.name 3) .nil))) (.tup (.cons (.alloc (.lst .nil)) (.cons (.lit (.int (0))) .nil)))) [some (.str t), none, none, none, none, none, none, none, none] h = .ok (.nx [some (.str t), none, some (.ref h.length), some (.int 0), none, none, none, none, none]) (h ++ [.lst []]) := by
    simp only [evS, evE, evEs, evT, evG, evGs, new, R.bind_ok, List.set_cons_zero, List.set_cons_succ, List.length_nil, List.length_cons, sz0, sz2, if_true, Tgs.len]
  have s2 : ∀ g, evS (evC prg (k + 1)) (.asg (.tup (.cons (.name 4) (.cons (.name 5) .nil))) (.tup (.cons (.lit (.str "abcdefghijklmnopqrstuvwxyz")) (.cons (.lit (.str "0123456789")) .nil)))) [some (.str t), none, some (.ref h.length), some (.int 0), none, none, none, none, none] g = .ok (.nx [some (.str t), none, some (.ref h.length), some (.int 0), some (.str sL), some (.str sD), none, none, none]) g := fun g => by
    simp only [evS, evE, evEs, evG, evGs, R.bind_ok, List.set_cons_zero, List.set_cons_succ, List.length_nil, List.length_cons, sz2, if_true, Tgs.len]
  have ei : ∀ g, evI (evC prg (k + 1)) (.rng1 (.blt .len (.cons (.var 0) .nil))) [some (.str t), none, some (.ref h.length), some (.int 0), some (.str sL), some (.str sD), none, none, none] g = .ok (rngL 0 n.toNat, []) g := fun g => by
    simp only [evI, evE, evEs, var, R.bind_ok, List.getElem?_cons_zero, len_str hl hz']
    exact rng1_int n0 (by omega)
  have main : ∃ g', evSs (evC prg (k + 1)) f__law_cut.body [some (.str t), none, none, none, none, none, none, none, none] h = .ok (.rt (scanD t)) g' ∧ g'.take h.length = h ∧ D.under h.length (scanD t) = true := by
    unfold f__law_cut
    rw [ss_nx s1, ss_nx (s2 _)]
    unfold scanD
    cases hsc : scan t 201 0 [] with
    | error i =>
      rw [fu] at hsc
      obtain ⟨g', e, hg⟩ := l1 i hsc
      refine ⟨g', ?_, hg, by simp [D.under]⟩
      refine ss_rt ?_
      rw [evS, ei, R.bind_ok]
      exact e
    | ok fs =>
      have us := scan_und 201 0 [] fs (by simp) hsc
      rw [fu] at hsc
      obtain ⟨g', e, hg⟩ := l2 fs hsc
      refine ⟨g', ?_, hg.base, by simp [D.under, unders_of us]⟩
      rcases e with e | ⟨y1, y3, y4, y5, y6, y7, y8, e⟩
      · refine ss_rt ?_
        rw [evS, ei, R.bind_ok]
        exact e
      · refine Eq.trans (ss_nx (by rw [evS, ei, R.bind_ok]; exact e)) ?_
        refine ss_rt ?_
        have bt : blt .tup [.ref h.length] g' = .ok (.tup fs) g' := by simp only [blt, seqOf, hg.get]
        simp only [evS, evE, evEs, var, R.bind_ok, List.getElem?_cons_zero, List.getElem?_cons_succ, bt]
  obtain ⟨g', e, h1, h2⟩ := main
  rw [evC_at (k := k + 1) (fn := f__law_cut) rfl rfl]
  show (evSs (evC prg (k + 1)) f__law_cut.body [some (.str t), none, none, none, none, none, none, none, none] h).bind (fin h) = _
  rw [e, R.bind_ok]
  simp [fin, sweep, h1, h2]
end RV.K03
set_option Elab.async false
set_option linter.all false
set_option maxRecDepth 100000
set_option autoImplicit false
set_option maxHeartbeats 4000000
namespace RV
open PySem PySem.Spec PyProof.Rows L2
/-- d may be looked at, to the depth m; its text has at most B signs -/
def Nice (m B : Nat) (d : D) : Prop := ∀ h, ∃ p, toP m h d = some p ∧ PyData.eqv p p = true ∧ p.showable = true ∧ p.shown.length ≤ B
theorem nice_str {m L : Nat} {x : Str} (hx : ∀ c ∈ x.cps.toList, c < 128) (hl : x.length ≤ L) : Nice (m + 1) (10 * L + 2) (.str x) := fun h => by
  have o : PyData.strOk x = true := RV.K03.ok_asc hx
  refine ⟨.str x, by rw [toP, if_pos o], by simp [PyData.eqv], rfl, ?_⟩
  have := PySem.StrLaws.reprText_len x (fun c hc => Nat.lt_trans (hx c hc) (by decide))
  show (reprText x).length ≤ _
  omega
theorem nice_int {m k : Nat} {i : Int} (hk : 0 < k) (hk2 : k ≤ 500) (hi : i.natAbs < 10 ^ k) : Nice (m + 1) (k + 1) (.int i) := fun h => by
  refine ⟨.int i, by rw [toP], by simp [PyData.eqv], ?_, int_len hk hi⟩
  have : i.natAbs.log2 < 1920 := by
    refine str_ok (Nat.lt_of_lt_of_le hi (Nat.le_trans (Nat.pow_le_pow_right (by decide) hk2) ?_))
    show 10 ^ 500 ≤ 2 ^ 1900
    decide +kernel
  simp only [PyData.showable, this, decide_true]
theorem join_len (B : Nat) : ∀ ts : List Str, (∀ t ∈ ts, t.length ≤ B) → (Str.join ", " ts).length ≤ (B + 2) * ts.length
  | [], _ => by
    show (0 : Nat) ≤ _
    exact Nat.zero_le _
  | [x], h => by
    have := h x List.mem_cons_self
    show x.length ≤ (B + 2) * 1
    omega
  | x :: y :: r, h => by
    have ih := join_len B (y :: r) fun t ht => h t (List.mem_cons_of_mem _ ht)
    have hx := h x List.mem_cons_self
    show ((x ++ (", " : Str)) ++ Str.join ", " (y :: r)).length ≤ _
    rw [str_len2, str_len2, List.length_cons, Nat.mul_succ]
    have : (", " : Str).length = 2 := by decide +kernel
    omega
theorem nice_tup {m B C : Nat} {ds : List D} (h : ∀ d ∈ ds, Nice m B d) (hc : ds.length ≤ C) : Nice (m + 1) ((B + 2) * C + 4) (.tup ds) := fun hp => by
  have all : ∀ l : List D, (∀ d ∈ l, Nice m B d) → ∃ ps, mapO (toP m hp) l = some ps ∧ PyData.eqvAll ps ps = true ∧ PyData.showableAll ps = true ∧ (∀ t ∈ PyData.shownAll ps, t.length ≤ B) ∧ (PyData.shownAll ps).length = l.length := fun l => by
    induction l with
    | nil => exact fun _ => ⟨[], rfl, rfl, rfl, by simp [PyData.shownAll], rfl⟩
    | cons d r ih =>
      intro hd
      obtain ⟨p, e1, e2, e3, e4⟩ := hd d List.mem_cons_self hp
      obtain ⟨ps, f1, f2, f3, f4, f5⟩ := ih fun x hx => hd x (List.mem_cons_of_mem _ hx)
      refine ⟨p :: ps, ?_, ?_, ?_, ?_, ?_⟩
      · rw [mapO, e1]
        dsimp only
        rw [f1]
      · rw [PyData.eqvAll, e2, f2]
        rfl
      · rw [PyData.showableAll, e3, f3]
        rfl
      · intro t ht
        rw [PyData.shownAll] at ht
        rcases List.mem_cons.mp ht with rfl | ht
        · exact e4
        · exact f4 t ht
      · rw [PyData.shownAll, List.length_cons, List.length_cons, f5]
  obtain ⟨ps, e1, e2, e3, e4, e5⟩ := all ds h
  refine ⟨.tuple ps, ?_, by rw [PyData.eqv]; exact e2, by rw [PyData.showable]; exact e3, ?_⟩
  · rw [toP, e1]
  · rw [PyData.shown]
    unfold tupleText
    rw [str_len2, str_len2]
    have j := join_len B _ e4
    rw [e5] at j
    have a1 : (Str.ofString "(").length = 1 := by decide +kernel
    have a2 : (Str.ofString (if ((PyData.shownAll ps).length == 1) = true then ",)" else ")")).length ≤ 2 := by
      split <;> decide +kernel
    have := Nat.mul_le_mul_left (B + 2) hc
    omega
theorem sm_nice {B : Nat} {d : D} {h : AH} (n : Nice DEEP B d) (hb : B + 64 ≤ SZ) (hd : ∃ ds, d = .tup ds) : Sm h d := by
  obtain ⟨ds, rfl⟩ := hd
  obtain ⟨p, e1, e2, e3, e4⟩ := n h
  refine ⟨?_, p.shown, ?_⟩
  · show (match toP DEEP h (.tup ds), toP DEEP h (.tup ds) with
      | some p, some q => some (PyData.eqv p q)
      | _, _ => none) = some true
    rw [e1]
    simp [e2]
  · unfold repO
    rw [e1]
    show (if (p.showable && decide (p.shown.length + 64 ≤ SZ)) = true then _ else none) = _
    rw [e3, decide_eq_true (by omega)]
    rfl
theorem sm_int {i : Int} {h : AH} {k : Nat} (hk : 0 < k) (hk2 : k ≤ 400) (hi : i.natAbs < 10 ^ k) : Sm h (.int i) := by
  obtain ⟨p, e1, e2, e3, e4⟩ := nice_int (m := 59) hk (by omega) hi h
  have e1' : toP DEEP h (.int i) = some p := e1
  refine ⟨by simp [deq], p.shown, ?_⟩
  unfold repO
  rw [e1']
  show (if (p.showable && decide (p.shown.length + 64 ≤ SZ)) = true then _ else none) = _
  rw [e3, decide_eq_true (by have : SZ = 16777216 := rfl; omega)]
  rfl
end RV
namespace RV.K03
open PySem PySem.Spec PyProof.Rows L2
variable {k : Nat} {h g : AH} {t s : Str} {a n : Int} {c : Nat} {acc : List D}
theorem sl_len (hz : t.length ≤ 200) {a e : Int} : (sl t a e).length ≤ 200 := by
  have e1 : (sl t a e).length = (cutL t.cps.toList (some a) (some e)).length := by
    show (cutL t.cps.toList (some a) (some e)).toArray.size = _
    exact List.size_toArray
  rw [e1]
  unfold cutL
  rw [List.length_take, List.length_drop]
  have hL : t.cps.toList.length = t.length := Array.length_toList
  omega
theorem tk_nice {w : Str} {v : D} (hw : ∀ c ∈ w.cps.toList, c < 128) (hl : w.length ≤ 200) (hv : Nice 58 2002 v) (ha : 0 ≤ a ∧ a ≤ 200) : Nice 59 ((2002 + 2) * 3 + 4) (tk w v a) := by
  refine nice_tup (m := 58) (B := 2002) (C := 3) (fun d hd => ?_) (by simp)
  simp only [List.mem_cons, List.not_mem_nil, or_false] at hd
  rcases hd with rfl | rfl | rfl
  · exact nice_str (m := 57) (L := 200) hw hl
  · exact hv
  · exact fun h => let ⟨p, e1, e2, e3, e4⟩ := nice_int (m := 57) (k := 10) (by decide) (by decide) (by omega) h; ⟨p, e1, e2, e3, by omega⟩
theorem step_nice (hz : t.length ≤ 200) (hA : Asc t) (ha : 0 ≤ a ∧ a ≤ 200) (hc : c < 128) {d : D} {e : Int} (z : step t a c = some (d, e)) : Nice 59 ((2002 + 2) * 3 + 4) d := by
  have w1 : ∀ c ∈ (Str.ofString "word").cps.toList, c < 128 := by decide +kernel
  have w2 : ∀ c ∈ (Str.ofString "int").cps.toList, c < 128 := by decide +kernel
  have w3 : ∀ c ∈ (Str.ofString "sign").cps.toList, c < 128 := by decide +kernel
  have v1 : ∀ a e, Nice 58 2002 (.str (sl t a e)) := fun a e => nice_str (m := 57) (L := 200) (asc_sl hA) (sl_len hz)
  unfold step at z
  split at z
  · split at z
    · cases z
    · cases z
      exact tk_nice w1 (by decide +kernel) (v1 _ _) ha
  · split at z
    · split at z
      · cases z
      · rename_i hb
        cases z
        refine tk_nice w2 (by decide +kernel) (fun h => ?_) ha
        have : 0 ≤ val (wd t.cps.toList DI a) := by unfold val; omega
        obtain ⟨p, e1, e2, e3, e4⟩ := nice_int (m := 57) (k := 10) (i := val (wd t.cps.toList DI a)) (by decide) (by decide) (by omega) h
        exact ⟨p, e1, e2, e3, by omega⟩
    · split at z
      · cases z
        exact tk_nice w3 (by decide +kernel) (v1 _ _) ha
      · split at z
        · cases z
          refine tk_nice w3 (by decide +kernel) (nice_str (m := 57) (L := 200) (fun x hx => ?_) ?_) ha
          · have : x = c := by simpa using hx
            omega
          · exact (by decide : 1 ≤ 200)
        · cases z
theorem scan_nice (hl : (t.length : Int) = n) (hz : t.length ≤ 200) (hA : Asc t) : ∀ (m : Nat) (a : Int) (acc : List D), 0 ≤ a → a ≤ n → (∀ d ∈ acc, Nice 59 ((2002 + 2) * 3 + 4) d) →
    (∀ fs, scan t m a acc = .ok fs → (∀ d ∈ fs, Nice 59 ((2002 + 2) * 3 + 4) d) ∧ fs.length ≤ acc.length + m) ∧ (∀ i, scan t m a acc = .error i → 0 ≤ i ∧ i ≤ n)
  | 0, a, acc, h0, h1, h => by
    rw [scan]
    refine ⟨fun fs z => ?_, fun i z => (by cases z)⟩
    cases z
    exact ⟨h, by omega⟩
  | m + 1, a, acc, h0, h1, h => by
    have hL : t.cps.toList.length = t.length := Array.length_toList
    have hle := rn_le (S := SP) (L := t.cps.toList) h0 (by omega)
    rw [scan]
    generalize rn t.cps.toList SP a = b at *
    cases hc : t.cps.toList[b.toNat]? with
    | none =>
      refine ⟨fun fs z => ?_, fun i z => (by cases z)⟩
      cases z
      exact ⟨h, by omega⟩
    | some c =>
      dsimp only
      cases hs : step t b c with
      | none =>
        refine ⟨fun fs z => (by cases z), fun i z => ?_⟩
        cases z
        omega
      | some p =>
        obtain ⟨d, e⟩ := p
        obtain ⟨q1, q2⟩ := step_adv hl (by omega) hc hs
        have hn : Nice 59 ((2002 + 2) * 3 + 4) d := step_nice hz hA (by omega) (hA c (List.mem_of_getElem? hc)) hs
        obtain ⟨r1, r2⟩ := scan_nice hl hz hA m e (acc ++ [d]) (by omega) q2 (fun x hx => by
          rcases List.mem_append.mp hx with hx | hx
          · exact h x hx
          · rw [List.mem_singleton.mp hx]
            exact hn)
        refine ⟨fun fs z => ?_, r2⟩
        obtain ⟨y1, y2⟩ := r1 fs z
        rw [List.length_append, List.length_singleton] at y2
        exact ⟨y1, by omega⟩
theorem scan_sm (hl : (t.length : Int) = n) (hz : t.length ≤ 200) (hA : Asc t) : Sm h (scanD t) := by
  obtain ⟨r1, r2⟩ := scan_nice hl hz hA 201 0 [] (by decide) (by omega) (by simp)
  unfold scanD
  cases e : scan t 201 0 [] with
  | error i =>
    have := r2 i e
    exact sm_int (k := 10) (by decide) (by decide) (by omega)
  | ok fs =>
    obtain ⟨y1, y2⟩ := r1 fs e
    exact sm_nice (nice_tup (m := 59) (C := 201) y1 (by simpa using y2)) (by have : SZ = 16777216 := rfl; omega) ⟨_, rfl⟩
end RV.K03
set_option Elab.async false
set_option linter.all false
set_option maxRecDepth 100000
set_option autoImplicit false
set_option maxHeartbeats 4000000
namespace RV.K03
open PySem PySem.Spec PyProof.Rows L2
variable {k : Nat} {h g : AH} {n m p B : Nat}
theorem StOk.app {g : AH} {n m B : Nat} (s : StOk g n m B) (c : Cell) : StOk (g ++ [c]) n m B := by
  obtain ⟨xs, p, v, c', s, t, h1, h2, h3, h4, h5, h6, h7, h8⟩ := s
  exact ⟨xs, p, v, c', s, t, by rw [List.getElem?_append_left (List.getElem?_eq_some_iff.mp h1).1]; exact h1, by rw [List.getElem?_append_left (List.getElem?_eq_some_iff.mp h2).1]; exact h2, h3, h4, h5, h6, h7, h8⟩
theorem StOk.lt {g : AH} {n m B : Nat} (s : StOk g n m B) : n < g.length := by
  obtain ⟨xs, p, v, c', s, t, h1, _⟩ := s
  exact (List.getElem?_eq_some_iff.mp h1).1
theorem app_at {g : AH} {p : Nat} {c c' : Cell} (e : g[p]? = some c) : (g ++ [c'])[p]? = some c := by
  rw [List.getElem?_append_left (List.getElem?_eq_some_iff.mp e).1]
  exact e
theorem v_draw {many : Int} (st : StOk g n m B) (hB : B < 1000000) (h1 : 0 < many) (h2 : Lt2 200 many) : ∃ r g', evC prg (k + 1) 4 [.ref n, .int many] g = .ok (.int r) g' ∧ 0 ≤ r ∧ r < many ∧ StOk g' n m (B + 1) ∧ g'.length = g.length ∧ ∀ q, q ≠ n → g'[q]? = g[q]? :=
  draw_ok (P := prg) (k := k) (j := 4) rfl st (by omega) h1 (h2.le (by decide))
theorem v_pick {L : List Str} {N : Int} (hN : (L.length : Int) = N) (st : StOk g n m B) (hB : B < 1000000) (hp : g[p]? = some (.lst (L.map .str))) (hne : p ≠ n) (h0 : 0 < N) (h1 : N ≤ 100) :
    ∃ x g', evC prg (k + 2) 5 [.ref n, .ref p] g = .ok (.str x) g' ∧ x ∈ L ∧ StOk g' n m (B + 1) ∧ g'.length = g.length ∧ ∀ q, q ≠ n → g'[q]? = g[q]? := by
  obtain ⟨r, g', e, r0, r1, s', l', fr⟩ := v_draw (k := k) (many := N) st hB h0 (by unfold Lt2; have : 2 ^ 7 ≤ 2 ^ 200 := Nat.pow_le_pow_right (by decide) (by decide); omega)
  have hlt : r.toNat < L.length := by omega
  have hx : (L.map D.str)[r.toNat]? = some (.str L[r.toNat]) := by rw [List.getElem?_map, List.getElem?_eq_getElem hlt]; rfl
  have ix : L2.atI (L.map D.str) r = some (.str L[r.toNat]) := by
    have := L2.atI_nat hx
    rw [show ((r.toNat : Nat) : Int) = r by omega] at this
    exact this
  have hp' : g'[p]? = some (.lst (L.map .str)) := by rw [fr p hne]; exact hp
  have ln : blt .len [.ref p] g = .ok (.int N) g := by
    simp only [blt, seqOf, hp, List.length_map, hN]
  refine ⟨L[r.toNat], g', ?_, List.getElem_mem hlt, s', l', fr⟩
  refine entH (k := k + 1) [some (.ref n), some (.ref p)] (show prg[5]? = some f__law_pick from rfl) rfl rfl ?_ l'
  generalize evC prg (k + 1) = cl at *
  refine ss_rt ?_
  simp only [evS, evE, evEs, var, R.bind_ok, List.getElem?_cons_zero, List.getElem?_cons_succ, ln, e, subP_ref hp' ix]
def PS1 : List Str := ["fun", "x", "abcdefghijkl", "abcdefghijklm", "0", "00", "7", "1000000", "1000001", "012", "12", " ", "\n", "  ", " "]
def PS2 : List Str := ["=", "==", "<", "<=", "===", "(", ")", "{", "}", "[", "]", ",", ";", ":", "+", "-", "*", "/", "^", "A", ".", ">", "!", "_"]
def PS : List Str := PS1 ++ PS2
def Pc (x : Str) : Prop := Asc x ∧ x.length ≤ 13
theorem ps_ok : ∀ x ∈ PS, Pc x := by
  have : (PS.all fun x => (x.cps.toList.all fun c => decide (c < 128)) && decide (x.length ≤ 13)) = true := by decide +kernel
  intro x hx
  obtain ⟨h1, h2⟩ := b2 (List.all_eq_true.mp this x hx)
  exact ⟨fun c hc => of_decide_eq_true (List.all_eq_true.mp h1 c hc), of_decide_eq_true h2⟩
theorem cut34 : cutL (PS.map D.str) none (some 34) = (PS.take 34).map .str := by decide +kernel
theorem app_cps (a b : Str) : (a ++ b).cps.toList = a.cps.toList ++ b.cps.toList := by
  show (a.cps ++ b.cps).toList = _
  exact Array.toList_append
theorem join_pc : ∀ ys : List Str, (∀ y ∈ ys, Pc y) → Asc (Str.join "" ys) ∧ (Str.join "" ys).length ≤ 13 * ys.length
  | [], _ => by
    refine ⟨fun c hc => ?_, Nat.zero_le _⟩
    have : (Str.join "" ([] : List Str)).cps.toList = [] := by decide +kernel
    rw [this] at hc
    cases hc
  | [x], h => ⟨(h x List.mem_cons_self).1, by
      have := (h x List.mem_cons_self).2
      show x.length ≤ 13 * 1
      omega⟩
  | x :: y :: r, h => by
    obtain ⟨i1, i2⟩ := join_pc (y :: r) fun t ht => h t (List.mem_cons_of_mem _ ht)
    obtain ⟨x1, x2⟩ := h x List.mem_cons_self
    have e : Str.join "" (x :: y :: r) = (x ++ ("" : Str)) ++ Str.join "" (y :: r) := rfl
    rw [e]
    have z : ("" : Str).cps.toList = [] := by decide +kernel
    have z2 : ("" : Str).length = 0 := by decide +kernel
    refine ⟨fun c hc => ?_, ?_⟩
    · rw [app_cps, app_cps, z, List.append_nil] at hc
      rcases List.mem_append.mp hc with hc | hc
      · exact x1 c hc
      · exact i1 c hc
    · rw [str_len2, str_len2, z2, List.length_cons]
      omega
/-- the drawn piece -/
def elPick : CE := .call 5 (.cons (.var 1) (.cons (.ite (.cmp .Eq (.call 4 (.cons (.var 1) (.cons (.lit (.int (12))) .nil))) (.lit (.int (0)))) (.var 2) (.slice (.var 2) .none (.some (.lit (.int (34)))))) .nil))
theorem el_ok {a0 a3 a4 a5 : Option D} {q : Nat} (st : StOk g n m B) (hB : B + 2 < 1000000) (hq : g[q]? = some (.lst (PS.map .str))) (hne : q ≠ n) :
    ∃ x g', evE (evC prg (k + 2)) elPick [a0, some (.ref n), some (.ref q), a3, a4, a5] g = .ok (.str x) g' ∧ Pc x ∧ StOk g' n m (B + 2) ∧ g'[q]? = some (.lst (PS.map .str)) := by
  obtain ⟨r, g1, e1, _, _, s1, l1, f1⟩ := v_draw (k := k + 1) (many := 12) st (by omega) (by decide) (by unfold Lt2; decide)
  have q1 : g1[q]? = some (.lst (PS.map .str)) := by rw [f1 q hne]; exact hq
  by_cases c : r = 0
  · obtain ⟨x, g2, e2, hx, s2, l2, f2⟩ := v_pick (k := k) (N := 39) (L := PS) rfl s1 (by omega) q1 hne (by decide) (by decide)
    refine ⟨x, g2, ?_, ps_ok x hx, s2, by rw [f2 q hne]; exact q1⟩
    have d : decide (r = 0) = true := decide_eq_true c
    generalize evC prg (k + 2) = cl at *
    simp only [elPick, evE, evEs, var, R.bind_ok, List.getElem?_cons_zero, List.getElem?_cons_succ, e1, cmpP, deq_i, d, ofO, tru_bl, if_true, e2]
  · have s1' := StOk.app s1 (.lst ((PS.take 34).map .str))
    have hl : g1.length ≠ n := by have := StOk.lt s1; omega
    obtain ⟨x, g2, e2, hx, s2, l2, f2⟩ := v_pick (k := k) (N := 34) (L := PS.take 34) rfl s1' (by omega) get_new hl (by decide) (by decide)
    refine ⟨x, g2, ?_, ps_ok x (List.mem_of_mem_take hx), s2, by rw [f2 q hne]; exact app_at q1⟩
    have d : decide (r = 0) = false := decide_eq_false c
    have sle : sliceP (.ref q) none (some 34) g1 = .ok (.ref g1.length) (g1 ++ [.lst ((PS.take 34).map .str)]) := by
      simp only [sliceP, q1, cut34, new]
    generalize evC prg (k + 2) = cl at *
    simp only [elPick, evE, evEs, evO, var, R.bind_ok, List.getElem?_cons_zero, List.getElem?_cons_succ, e1, cmpP, deq_i, d, ofO, tru_bl, Bool.false_eq_true, if_false, sle, e2]
end RV.K03
set_option Elab.async false
set_option linter.all false
set_option maxRecDepth 100000
set_option autoImplicit false
set_option maxHeartbeats 4000000
namespace RV.K03
open PySem PySem.Spec PyProof.Rows L2
variable {k : Nat} {h g : AH} {n m p q B : Nat} {a0 a3 a4 a5 : Option D}
abbrev cl (k : Nat) : Call := evC prg (k + 10)
theorem asStr_map (ys : List Str) : mapO asStr (ys.map D.str) = some ys := by
  induction ys with
  | nil => rfl
  | cons y r ih =>
    rw [List.map_cons, mapO]
    simp only [asStr, ih]
theorem len_sum : ∀ ys : List Str, (∀ y ∈ ys, Pc y) → (ys.map (·.length)).sum ≤ 13 * ys.length
  | [], _ => by simp
  | y :: r, h => by
    have := (h y List.mem_cons_self).2
    have := len_sum r fun x hx => h x (List.mem_cons_of_mem _ hx)
    rw [List.map_cons, List.sum_cons, List.length_cons]
    omega
theorem w1 (st : StOk g n m B) (hB : B + 30 < 1000000) (hq : g[q]? = some (.lst (PS.map .str))) (hne : q ≠ n) :
    ∃ t g', evS (cl k) (.asg (.name 4) (.join (.lit (.str "")) (.lc [5] (.name 5) (.rng1 (.call 4 (.cons (.var 1) (.cons (.lit (.int (9))) .nil)))) .none (.call 5 (.cons (.var 1) (.cons (.ite (.cmp .Eq (.call 4 (.cons (.var 1) (.cons (.lit (.int (12))) .nil))) (.lit (.int (0)))) (.var 2) (.slice (.var 2) .none (.some (.lit (.int (34)))))) .nil))))))
      [a0, some (.ref n), some (.ref q), a3, a4, a5] g = .ok (.nx [a0, some (.ref n), some (.ref q), a3, some (.str t), a5]) g' ∧ Asc t ∧ t.length ≤ 200 ∧ StOk g' n m (B + 30) ∧ g'[q]? = some (.lst (PS.map .str)) := by
  obtain ⟨r, g1, e1, r0, r1, s1, l1, f1⟩ := v_draw (k := k + 9) (many := 9) st (by omega) (by decide) (by unfold Lt2; decide)
  have e1' : cl k 4 [.ref n, .int 9] g = _ := e1
  have q1 : g1[q]? = some (.lst (PS.map .str)) := by rw [f1 q hne]; exact hq
  obtain ⟨acc, g2, e2, ys, B', e3, hy, hl, s2, hB', q2⟩ := comp_ok (tg := fun x h => evG (cl k) (.name 5) x (wipeE [a0, some (.ref n), some (.ref q), a3, a4, a5] [5]) h) (test := evF (cl k) .none) (elt := evE (cl k) elPick) (deps := [])
    (fun r acc h' => ∃ ys B', acc = ys.map D.str ∧ (∀ y ∈ ys, Pc y) ∧ ys.length + r.length ≤ 8 ∧ StOk h' n m B' ∧ B' + 2 * r.length ≤ B + 20 ∧ h'[q]? = some (.lst (PS.map .str))) (fun _ _ _ _ => rfl) (fun z r acc h' ⟨ys, B', e3, hy, hl, s, hB', hq'⟩ => by
      rw [List.length_cons] at hl hB'
      obtain ⟨x, g3, e4, hx, s3, q3⟩ := el_ok (k := k + 8) (a0 := a0) (a3 := a3) (a4 := a4) (a5 := some z) s (by omega) hq' hne
      refine ⟨[a0, some (.ref n), some (.ref q), a3, a4, some z], h', h', .str x, g3, rfl, by simp only [evF], e4, ?_, ys ++ [x], B' + 2, by rw [e3]; simp, fun y hy' => ?_, by simp; omega, s3, by omega, q3⟩
      · rw [e3, List.length_map]
        have : SZ = 16777216 := rfl
        omega
      · rcases List.mem_append.mp hy' with hy' | hy'
        · exact hy y hy'
        · rw [List.mem_singleton.mp hy']
          exact hx) (rngL 0 r.toNat) [] g1 ⟨[], B + 1, rfl, by simp, by rw [rng_len]; simp; omega, s1, by rw [rng_len]; omega, q1⟩
  subst e3
  obtain ⟨j1, j2⟩ := join_pc ys hy
  have hl' : ys.length ≤ 8 := by simpa using hl
  refine ⟨Str.join "" ys, g2, ?_, j1, by omega, s2.le (by omega), q2⟩
  have ei : evI (cl k) (.rng1 (.call 4 (.cons (.var 1) (.cons (.lit (.int (9))) .nil)))) [a0, some (.ref n), some (.ref q), a3, a4, a5] g = .ok (rngL 0 r.toNat, []) g1 := by
    generalize cl k = c at *
    simp only [evI, evE, evEs, var, R.bind_ok, List.getElem?_cons_zero, List.getElem?_cons_succ, e1']
    exact rng1_int r0 (by omega)
  have e2' : evComp (fun x h => evG (cl k) (.name 5) x (wipeE [a0, some (.ref n), some (.ref q), a3, a4, a5] [5]) h) (evF (cl k) .none) (evE (cl k) (.call 5 (.cons (.var 1) (.cons (.ite (.cmp .Eq (.call 4 (.cons (.var 1) (.cons (.lit (.int (12))) .nil))) (.lit (.int (0)))) (.var 2) (.slice (.var 2) .none (.some (.lit (.int (34)))))) .nil)))) [] (rngL 0 r.toNat) [] g1 = .ok (ys.map D.str) g2 := e2
  rw [evS, evE, evE, R.bind_ok]
  dsimp only
  rw [evT, ei, R.bind_ok]
  dsimp only
  rw [e2', R.bind_ok, asStr_map]
  dsimp only
  have ls := len_sum ys hy
  have z0 : ("" : Str).length = 0 := by decide +kernel
  rw [if_pos (by have : SZ = 16777216 := rfl; rw [z0]; omega), R.bind_ok]
  have je : Txt.join "" ys = Str.join "" ys := TL.join_eq _ _
  rw [je]
  rfl
theorem v_same {d : D} (s : Sm h d) : evC prg (k + 1) 6 [d, d] h = .ok (.bl true) h := same_ok rfl s
theorem w2 {t : Str} (hz : t.length ≤ 200) (hA : Asc t) : evS (cl k) (.ifs (.not (.call 6 (.cons (.call 9 (.cons (.var 4) .nil)) (.cons (.call 8 (.cons (.var 4) .nil)) .nil)))) (.cons (.ret (.lit (.bl false)))
    .nil) .nil) [a0, some (.ref n), some (.ref q), a3, some (.str t), a5] g = .ok (.nx [a0, some (.ref n), some (.ref q), a3, some (.str t), a5]) g := by
  obtain ⟨nn, hl⟩ : ∃ nn : Int, (t.length : Int) = nn := ⟨_, rfl⟩
  have e1 : cl k 9 [.str t] g = _ := v_read (k := k + 6) hl hz hA
  have e2 : cl k 8 [.str t] g = _ := v_cut (k := k + 8) hl hz hA
  have e3 : cl k 6 [scanD t, scanD t] g = _ := v_same (k := k + 9) (scan_sm hl hz hA)
  refine if_no (evB_no ?_)
  generalize cl k = c at *
  simp only [evE, evEs, var, R.bind_ok, List.getElem?_cons_zero, List.getElem?_cons_succ, e1, e2, e3, tru_bl, ofO, Bool.not_true]
end RV.K03
set_option Elab.async false
set_option linter.all false
set_option maxRecDepth 100000
set_option autoImplicit false
set_option maxHeartbeats 4000000
namespace RV.K03
open PySem PySem.Spec PyProof.Rows L2
variable {k : Nat} {h g : AH} {n m p q B : Nat} {a0 a1 a2 a3 a4 a5 : Option D}
theorem asc_of {t : Str} (h : (t.cps.toList.all fun c => decide (c < 128)) = true) : Asc t := fun c hc => of_decide_eq_true (List.all_eq_true.mp h c hc)
theorem w3 : evS (cl k) (.ret (.and (.cmp .Eq (.call 2 (.cons (.lit (.str "")) .nil)) (.tup .nil)) (.and (.cmp .Eq (.call 2 (.cons (.lit (.str " \n ")) .nil)) (.tup .nil)) (.and (.cmp .Eq (.call 2 (.cons (.lit (.str "a1")) .nil)) (.tup (.cons (.tup (.cons (.lit (.str "word")) (.cons (.lit (.str "a")) (.cons (.lit (.int (0))) .nil)))) (.cons (.tup (.cons (.lit (.str "int")) (.cons (.lit (.int (1))) (.cons (.lit (.int (1))) .nil)))) .nil)))) (.cmp .Eq (.call 9 (.cons (.lit (.str "99999999")) .nil)) (.lit (.int (0))))))))
    [a0, a1, a2, a3, a4, a5] g = .ok (.rt (.bl true)) g := by
  have e1 : cl k 2 [.str ""] g = .ok (.tup []) g := (v_tokens (k := k + 7) (h := g) (t := "") rfl (by decide +kernel) (asc_of (by decide +kernel))).1 [] (by kernel_rfl)
  have e2 : cl k 2 [.str " \n "] g = .ok (.tup []) g := (v_tokens (k := k + 7) (h := g) (t := " \n ") rfl (by decide +kernel) (asc_of (by decide +kernel))).1 [] (by kernel_rfl)
  have e3 : cl k 2 [.str "a1"] g = .ok (.tup [.tup [.str "word", .str "a", .int 0], .tup [.str "int", .int 1, .int 1]]) g := (v_tokens (k := k + 7) (h := g) (t := "a1") rfl (by decide +kernel) (asc_of (by decide +kernel))).1 [.tup [.str "word", .str "a", .int 0], .tup [.str "int", .int 1, .int 1]] (by kernel_rfl)
  have e4 : cl k 9 [.str "99999999"] g = .ok (.int 0) g := by
    have := v_read (k := k + 6) (h := g) (t := "99999999") rfl (by decide +kernel) (asc_of (by decide +kernel))
    rw [show scanD "99999999" = .int 0 by kernel_rfl] at this
    exact this
  have z1 : deq (.tup []) (.tup []) g = some true := rfl
  have z2 : deq (.tup [.tup [.str "word", .str "a", .int 0], .tup [.str "int", .int 1, .int 1]]) (.tup [.tup [.str "word", .str "a", .int 0], .tup [.str "int", .int 1, .int 1]]) g = some true := by kernel_rfl
  generalize cl k = c at *
  simp only [evS, evE, evEs, R.bind_ok, e1, e2, e3, e4, cmpP, z1, z2, deq_i, ofO, tru_bl, List.length_cons, List.length_nil, sz0, sz2, sz3, if_true, decide_true]
theorem law_ok (ns : List Int) (hn : ns.length ≤ 63) : ∃ h', evC prg (k + 11) 10 [.rol (ns.map .int)] [] = .ok (.bl true) h' := by
  obtain ⟨n, m, h0, e0, s0⟩ := start_ok (P := prg) (k := k + 9) (j := 3) rfl hn
  have e0' : cl k 3 [.rol (ns.map .int)] [] = .ok (.ref n) h0 := e0
  have hn0 : n < h0.length := StOk.lt s0
  obtain ⟨h3, hh3⟩ : ∃ h3, h3 = h0 ++ [Cell.lst (PS1.map .str)] ++ [Cell.lst (PS2.map .str)] ++ [Cell.lst (PS.map .str)] := ⟨_, rfl⟩
  obtain ⟨q, hq⟩ : ∃ q, q = (h0 ++ [Cell.lst (PS1.map .str)] ++ [Cell.lst (PS2.map .str)]).length := ⟨_, rfl⟩
  have s3 : StOk h3 n m 0 := by rw [hh3]; exact StOk.app (StOk.app (StOk.app s0 _) _) _
  have q3 : h3[q]? = some (.lst (PS.map .str)) := by rw [hh3, hq]; exact get_new
  have qn : q ≠ n := by
    rw [hq]
    simp only [List.length_append, List.length_singleton]
    omega
  obtain ⟨env', h', e, a3, a4, a5, B, e1, s', hB, q'⟩ := loop_ok (tg := evG (cl k) (.name 3)) (body := evSs (cl k) (match f_law.body with
      | .cons _ (.cons _ (.cons _ (.cons (.forr _ _ b) _))) => b
      | _ => .nil)) (deps := [])
    (fun r env h' => ∃ a3 a4 a5 B, env = [some (.rol (ns.map .int)), some (.ref n), some (.ref q), a3, a4, a5] ∧ StOk h' n m B ∧ B + 40 * r.length ≤ 5000 ∧ h'[q]? = some (.lst (PS.map .str))) (fun _ _ _ _ => rfl) (fun z r env h1 ⟨a3, a4, a5, B, e1, s, hB, q1⟩ => by
      subst e1
      rw [List.length_cons] at hB
      obtain ⟨t, h2, g1, hA, hz, s2, q2⟩ := w1 (k := k) (a0 := some (.rol (ns.map .int))) (a3 := some z) (a4 := a4) (a5 := a5) s (by omega) q1 qn
      refine ⟨_, _, [some (.rol (ns.map .int)), some (.ref n), some (.ref q), some z, some (.str t), a5], h2, rfl, ?_, _, _, _, B + 30, rfl, s2, by omega, q2⟩
      unfold f_law
      dsimp only
      show evSs (cl k) _ [some (.rol (ns.map .int)), some (.ref n), some (.ref q), some z, a4, a5] h1 = _
      rw [ss_nx g1, ss_nx (w2 hz hA), evSs]) (rngL 0 60) [some (.rol (ns.map .int)), some (.ref n), some (.ref q), none, none, none] h3 ⟨none, none, none, 0, rfl, s3, by rw [rng_len]; decide, q3⟩
  subst e1
  rw [evC_at (k := k + 10) (fn := f_law) rfl rfl]
  show ∃ g, (evSs (cl k) f_law.body [some (.rol (ns.map .int)), none, none, none, none, none] []).bind (fin []) = .ok (.bl true) g
  refine ⟨[], ?_⟩
  have st : evSs (cl k) f_law.body [some (.rol (ns.map .int)), none, none, none, none, none] [] = .ok (.rt (.bl true)) h' := by
    unfold f_law
    rw [ss_nx (env1 := [some (.rol (ns.map .int)), some (.ref n), none, none, none, none]) (h1 := h0) (by
      generalize cl k = c at *
      simp only [evS, evE, evEs, evG, var, R.bind_ok, List.getElem?_cons_zero, e0', List.set_cons_zero, List.set_cons_succ])]
    refine Eq.trans (ss_nx (env1 := [some (.rol (ns.map .int)), some (.ref n), some (.ref h0.length), none, none, none]) (h1 := h0 ++ [Cell.lst (PS1.map .str)]) rfl) ?_
    refine Eq.trans (ss_nx (env1 := [some (.rol (ns.map .int)), some (.ref n), some (.ref q), none, none, none]) (h1 := h3) ?_) ?_
    · have g1 : (h0 ++ [Cell.lst (PS1.map .str)] ++ [Cell.lst (PS2.map .str)])[h0.length]? = some (.lst (PS1.map .str)) := app_at get_new
      have g2 : (h0 ++ [Cell.lst (PS1.map .str)] ++ [Cell.lst (PS2.map .str)])[(h0 ++ [Cell.lst (PS1.map .str)]).length]? = some (.lst (PS2.map .str)) := get_new
      have al : ∀ (env : En) (CC : CE) (hCC : evE (cl k) CC env (h0 ++ [Cell.lst (PS1.map .str)]) = .ok (.ref (h0 ++ [Cell.lst (PS1.map .str)]).length) (h0 ++ [Cell.lst (PS1.map .str)] ++ [Cell.lst (PS2.map .str)])), env[2]? = some (some (.ref h0.length)) → evE (cl k) (.op2 .Add (.var 2) CC) env (h0 ++ [Cell.lst (PS1.map .str)]) = .ok (.ref q) h3 := fun env CC hCC he => by
        have hz : (PS1.map D.str).length + (PS2.map D.str).length ≤ SZ := by have : SZ = 16777216 := rfl; rw [List.length_map, List.length_map]; decide
        simp only [evE, var, he, R.bind_ok, hCC, prim2, g1, g2, if_pos hz, new]
        rw [hh3, hq]
        unfold PS
        rw [List.map_append]
      rw [evS, al _ _ rfl rfl, R.bind_ok]
      rfl
    refine Eq.trans (ss_nx (for_nx (t := .name 3) (src := rngL 0 60) (deps := []) (h1 := h3) (by
      simp only [evI, evE, R.bind_ok]
      exact rng1_int (i := 60) (by decide) (by decide)) e)) ?_
    exact ss_rt w3
  rw [st, R.bind_ok]
  simp [fin, sweep, D.under]
end RV.K03
set_option Elab.async false
set_option linter.all false
set_option maxRecDepth 100000
set_option maxHeartbeats 0
namespace RV.K03
open PySem PySem.Spec PyProof.Rows L2
abbrev R : PySem.W.OpenRow := PySem.W.OpenLaw.row PySem.Challenge.rw_everyslope_k03_tokens_by_hand
abbrev hk : PySem.W.Hook := hookR 6 PySem.Challenge.pw_everyslope_k03_tokens_by_hand tabl exs (defsOf tabl sts)
def ob (s : PySem.W.SharedT) : AlR := obsRG 6 PySem.Challenge.pw_everyslope_k03_tokens_by_hand tabl exs (defsOf tabl sts) (HandSHeadRun.getT s)
theorem ob_eq (s : PySem.W.SharedT) : ob s = hk.obs s.abs := obsRG_eq (HandSHeadRun.getT_eq s)
def loose : List PySem.Str := ("SlopeError" : PySem.Str) :: ("TextError" : PySem.Str) :: ("ArgumentError" : PySem.Str) :: ("MAX_NAME" : PySem.Str) :: ("MAX_TEXT" : PySem.Str) :: ("MAX_NUM" : PySem.Str) :: ("LETTERS" : PySem.Str) :: ("DIGITS" : PySem.Str) :: ("LONG" : PySem.Str) :: ("SHORT" : PySem.Str) :: ("run_of" : PySem.Str) :: ("token_at" : PySem.Str) :: ("tokens" : PySem.Str) :: ("_law_start" : PySem.Str) :: ("_law_draw" : PySem.Str) :: ("_law_pick" : PySem.Str) :: ("_law_same" : PySem.Str) :: ("_law_run" : PySem.Str) :: ("_law_cut" : PySem.Str) :: ("_law_read" : PySem.Str) :: []
theorem run (w : World) : HandSHeadRun.RunEq R (PySem.W.view R.prog [23]) hk ob 6000 loose w := by
  delta HandSHeadRun.RunEq
  intro os
  kernel_rfl
end RV.K03
open PySem PySem.W PySem.Calls PyProof.Rows
theorem k03_end (law : ∀ ns : List Int, ns.length ≤ 63 → ∃ h', RV.evC RV.K03.prg 60 10 [.rol (ns.map .int)] [] = .ok (.bl true) h') : PySem.Challenge.rw_everyslope_k03_tokens_by_hand.Holds := by
  w_on; o_law
  refine HandSHeadRun.head_any (r := OpenLaw.row PySem.Challenge.rw_everyslope_k03_tokens_by_hand) (q := view (OpenLaw.row PySem.Challenge.rw_everyslope_k03_tokens_by_hand).prog [23]) (H := RV.K03.hk) (ob := RV.K03.ob) (M := 6000) (loose := RV.K03.loose) (d := HandSHeadRun.topDef (OpenLaw.row PySem.Challenge.rw_everyslope_k03_tokens_by_hand).prog 23) (kwd := []) RV.K03.ob_eq
    (by kernel_rfl) (fun s => by kernel_rfl) RV.K03.run (by kernel_rfl) (by kernel_rfl) (by kernel_rfl) (by rfl) (by first | assumption | decide +kernel) (by decide +kernel) ⟨rfl, rfl, rfl, rfl, rfl, by decide +kernel⟩ ?hw ?hc
  case hw => w_witness2
  case hc =>
    exact RV.walk_R (l := PySem.Challenge.rw_everyslope_k03_tokens_by_hand) (n := 63) (k := 60) (x := "script") (st := RV.K03.top 23) rfl (by decide) (by kernel_rfl) ⟨rfl, by decide, by decide⟩ (by kernel_rfl) (by rfl) (by kernel_rfl) RV.K03.parts rfl RV.K03.exs_ok law
theorem PySem.Challenge.cw_everyslope_k03_tokens_by_hand_holds : PySem.Challenge.rw_everyslope_k03_tokens_by_hand.Holds := by
  exact k03_end fun ns hn => RV.K03.law_ok (k := 49) ns hn
